import PyProof.Rows.All
import Wide.All
import OpenK.AllK
import Wide.FinOn
import PyProof.ReprRoads
import HandS.ForMost
import HandS.ForExc
import HandS.IsInst
import HandS.Codes
import HandS.Star
import HandS.Conv
import HandS.Wide
import HandS.WideBits
import HandS.FStr
import HandS.MakeKwOnly
import HandS.Defaults
import HandS.Flow
import HandS.Style
import KE.GoesEnum
import PyProof.ReprLen
import HandS.TupMul
import HandS.Lambda
import HandS.Steps
import HandS.TupAny
import HandS.Zip
import KE.DataCmp
import KE.SortData
import HandS.Dict
import HandS.SetKeys
import KE.GoesMore
import HandS.CallLocal
import PyProof.P3In
import HandS.OwnEq
import PyProof.Rows.SetFrom
import PyProof.WalksMore
import HandS.More
import PyProof.EqKinds
import PyProof.DictRoadsH
import PySem.Challenge.RW_shownshort_k28_whole_widths_that_tell_ap
set_option Elab.async false
set_option linter.all false
set_option maxRecDepth 100000
set_option maxHeartbeats 4000000
set_option synthInstance.maxHeartbeats 2000000
set_option synthInstance.maxSize 100000
namespace U
open PySem PySem.Spec PyProof.Rows L2
inductive D where
  | non | bl (b : Bool) | int (i : Int) | str (x : Str) | lst (xs : List D) | tup (xs : List D) | ins (C : Addr) (ns : List Str) (xs : List D)
  | ptr (a : Addr) | ty (n : String) | opq (a : Addr) (o : HO) | ftp (xs : List D)
mutual
/-- v is the datum d in H; no object of it stands in S -/
inductive Dt (S : Addr → Prop) (H : Hp) : V → D → Prop
  | non : Dt S H .non .non
  | bl (b : Bool) : Dt S H (.bl b) (.bl b)
  | int (i : Int) : Dt S H (.int i) (.int i)
  | str (x : Str) : Dt S H (.str x) (.str x)
  | lst {a : Addr} {xs : List V} {ds : List D} : ¬ S a → H a = some (.lst xs) → DtA S H xs ds → Dt S H (.ref a) (.lst ds)
  | tup {a : Addr} {xs : List V} {ds : List D} : ¬ S a → H a = some (.tup xs) → DtA S H xs ds → Dt S H (.ref a) (.tup ds)
  | ins {a C dx : Addr} {fs : List (Str × V)} {ns : List Str} {ds : List D} : ¬ S a → H a = some (.ins C dx fs) → fs.map (·.1) = ns → DtA S H (fs.map (·.2)) ds → Dt S H (.ref a) (.ins C ns ds)
  | ptr (a : Addr) : Dt S H (.ref a) (.ptr a)
  | ty (n : String) : Dt S H (.ty n) (.ty n)
  | opq {a : Addr} {o : HO} : ¬ S a → H a = some o → Dt S H (.ref a) (.opq a o)
  /-- a tuple that is known to have no dict -/
  | ftp {a : Addr} {o : Obj} {xs : List V} {ds : List D} : ¬ S a → H a = some (.frz o (.tup xs)) → o.dict = none → DtA S H xs ds → Dt S H (.ref a) (.ftp ds)
inductive DtA (S : Addr → Prop) (H : Hp) : List V → List D → Prop
  | nil : DtA S H [] []
  | cons {v : V} {vs : List V} {d : D} {ds : List D} : Dt S H v d → DtA S H vs ds → DtA S H (v :: vs) (d :: ds)
end
/-- nothing -/
abbrev N0 : Addr → Prop := fun _ => False
/-- H' holds all that H holds, but what stands in S -/
def Ext (S : Addr → Prop) (H H' : Hp) : Prop := ∀ b o, ¬ S b → H b = some o → H' b = some o
section
variable {S S' : Addr → Prop} {H H1 H2 H' : Hp}
theorem Ext.refl (H : Hp) : Ext S H H := fun _ _ _ h => h
theorem Ext.trans (a : Ext S H H1) (b : Ext S H1 H2) : Ext S H H2 := fun c o n h => b c o n (a c o n h)
theorem Ext.of (e : Same H H') : Ext S H H' := fun b o _ h => e b o h
theorem Same.new {p : Addr} {o : HO} (h : H p = none) : Same H (upd H p o) := fun b u e => by
  rw [upd_ne (ne_of_none e h)]
  exact e
theorem Same.snew {p : Addr} {o : HO} (e : Same H H1) (h : H1 p = none) : Same H (upd H1 p o) := e.trans (Same.new h)
theorem Ext.new {p : Addr} {o : HO} (e : Ext S H H1) (h : H1 p = none) : Ext S H (upd H1 p o) := e.trans (Ext.of (Same.new h))
theorem Ext.mut {p : Addr} {o : HO} (e : Ext S H H1) (h : S p) : Ext S H (upd H1 p o) := fun b u n hb => by
  rw [upd_ne (fun z => n (by rw [z]; exact h))]
  exact e b u n hb
theorem Ext.less (e : Ext S H H1) (h : ∀ a, S a → S' a) : Ext S' H H1 := fun b o n hb => e b o (fun z => n (h b z)) hb
/-- all but one that was not there -/
theorem Ext.same {l : Addr} (e : Ext (fun a => a = l) H H1) (hl : H l = none) : Same H H1 := fun b o h => e b o (fun z => by rw [z, hl] at h; cases h) h
mutual
theorem Dt.mono (e : Ext S H H') : ∀ (d : D) {v : V}, Dt S H v d → Dt S H' v d
  | .non, _, h => by cases h; exact .non
  | .bl b, _, h => by cases h; exact .bl b
  | .int i, _, h => by cases h; exact .int i
  | .str x, _, h => by cases h; exact .str x
  | .lst ds, _, h => by
    cases h with
    | lst n ha hs => exact .lst n (e _ _ n ha) (DtA.mono e ds hs)
  | .tup ds, _, h => by
    cases h with
    | tup n ha hs => exact .tup n (e _ _ n ha) (DtA.mono e ds hs)
  | .ins C ns ds, _, h => by
    cases h with
    | ins n ha hn hs => exact .ins n (e _ _ n ha) hn (DtA.mono e ds hs)
  | .ptr a, _, h => by cases h; exact .ptr a
  | .ty n, _, h => by cases h; exact .ty n
  | .opq a o, _, h => by
    cases h with
    | opq n ha => exact .opq n (e _ _ n ha)
  | .ftp ds, _, h => by
    cases h with
    | ftp n ha hd hs => exact .ftp n (e _ _ n ha) hd (DtA.mono e ds hs)
theorem DtA.mono (e : Ext S H H') : ∀ (ds : List D) {vs : List V}, DtA S H vs ds → DtA S H' vs ds
  | [], _, h => by cases h; exact .nil
  | d :: ds, _, h => by
    cases h with
    | cons h1 h2 => exact .cons (Dt.mono e d h1) (DtA.mono e ds h2)
end
mutual
/-- another set of what may change -/
theorem Dt.set (f : ∀ a, ¬ S a → H a ≠ none → ¬ S' a) : ∀ (d : D) {v : V}, Dt S H v d → Dt S' H v d
  | .non, _, h => by cases h; exact .non
  | .bl b, _, h => by cases h; exact .bl b
  | .int i, _, h => by cases h; exact .int i
  | .str x, _, h => by cases h; exact .str x
  | .lst ds, _, h => by
    cases h with
    | lst n ha hs => exact .lst (f _ n (by rw [ha]; exact fun z => nomatch z)) ha (DtA.set f ds hs)
  | .tup ds, _, h => by
    cases h with
    | tup n ha hs => exact .tup (f _ n (by rw [ha]; exact fun z => nomatch z)) ha (DtA.set f ds hs)
  | .ins C ns ds, _, h => by
    cases h with
    | ins n ha hn hs => exact .ins (f _ n (by rw [ha]; exact fun z => nomatch z)) ha hn (DtA.set f ds hs)
  | .ptr a, _, h => by cases h; exact .ptr a
  | .ty n, _, h => by cases h; exact .ty n
  | .opq a o, _, h => by
    cases h with
    | opq n ha => exact .opq (f _ n (by rw [ha]; exact fun z => nomatch z)) ha
  | .ftp ds, _, h => by
    cases h with
    | ftp n ha hd hs => exact .ftp (f _ n (by rw [ha]; exact fun z => nomatch z)) ha hd (DtA.set f ds hs)
theorem DtA.set (f : ∀ a, ¬ S a → H a ≠ none → ¬ S' a) : ∀ (ds : List D) {vs : List V}, DtA S H vs ds → DtA S' H vs ds
  | [], _, h => by cases h; exact .nil
  | d :: ds, _, h => by
    cases h with
    | cons h1 h2 => exact .cons (Dt.set f d h1) (DtA.set f ds h2)
end
theorem Dt.go {d : D} {v : V} (h : Dt S H v d) (e : Ext S H H') : Dt S H' v d := Dt.mono e d h
theorem Dt.sm {d : D} {v : V} (h : Dt S H v d) (e : Same H H') : Dt S H' v d := Dt.mono (Ext.of e) d h
theorem DtA.go {d : List D} {v : List V} (h : DtA S H v d) (e : Ext S H H') : DtA S H' v d := DtA.mono e d h
theorem DtA.sm {d : List D} {v : List V} (h : DtA S H v d) (e : Same H H') : DtA S H' v d := DtA.mono (Ext.of e) d h
/-- a new object may change from now on -/
theorem Dt.fresh {d : D} {v : V} {l : Addr} (h : Dt S H v d) (hl : H l = none) : Dt (fun a => S a ∨ a = l) H v d :=
  Dt.set (fun a n k z => z.elim n fun q => k (by rw [q]; exact hl)) d h
/-- nothing changes any more -/
theorem Dt.n0 {d : D} {v : V} (h : Dt S H v d) : Dt N0 H v d := Dt.set (fun _ _ _ z => z) d h
theorem DtA.n0 {d : List D} {v : List V} (h : DtA S H v d) : DtA N0 H v d := DtA.set (fun _ _ _ z => z) d h
theorem DtA.length : ∀ {vs : List V} {ds : List D}, DtA S H vs ds → vs.length = ds.length
  | _, _, .nil => rfl
  | _, _, .cons _ t => congrArg Nat.succ (DtA.length t)
theorem DtA.append : ∀ {vs ws : List V} {ds es : List D}, DtA S H vs ds → DtA S H ws es → DtA S H (vs ++ ws) (ds ++ es)
  | _, _, _, _, .nil, k => k
  | _, _, _, _, .cons h t, k => .cons h (DtA.append t k)
theorem DtA.snoc {vs : List V} {ds : List D} {v : V} {d : D} (h : DtA S H vs ds) (k : Dt S H v d) : DtA S H (vs ++ [v]) (ds ++ [d]) := h.append (.cons k .nil)
theorem DtA.get : ∀ {vs : List V} {ds : List D} {i : Nat} {d : D}, DtA S H vs ds → ds[i]? = some d → ∃ v, vs[i]? = some v ∧ Dt S H v d
  | _, _, _, _, .nil, e => by simp at e
  | _, _, 0, _, .cons h _, e => by
    simp at e
    subst e
    exact ⟨_, rfl, h⟩
  | _, _, i + 1, d, .cons _ t, e => by
    obtain ⟨v, h1, h2⟩ := DtA.get (i := i) (d := d) t (by simpa using e)
    exact ⟨v, by simpa using h1, h2⟩
theorem DtA.getV : ∀ {vs : List V} {ds : List D} {i : Nat} {v : V}, DtA S H vs ds → vs[i]? = some v → ∃ d, ds[i]? = some d ∧ Dt S H v d
  | _, _, _, _, .nil, e => by simp at e
  | _, _, 0, _, .cons h _, e => by
    simp at e
    subst e
    exact ⟨_, rfl, h⟩
  | _, _, i + 1, d, .cons _ t, e => by
    obtain ⟨v, h1, h2⟩ := DtA.getV (i := i) (v := d) t (by simpa using e)
    exact ⟨v, by simpa using h1, h2⟩
theorem DtA.take : ∀ {vs : List V} {ds : List D} (n : Nat), DtA S H vs ds → DtA S H (vs.take n) (ds.take n)
  | _, _, 0, _ => .nil
  | _, _, _ + 1, .nil => .nil
  | _, _, n + 1, .cons h t => .cons h (DtA.take n t)
theorem DtA.drop : ∀ {vs : List V} {ds : List D} (n : Nat), DtA S H vs ds → DtA S H (vs.drop n) (ds.drop n)
  | _, _, 0, h => h
  | _, _, _ + 1, .nil => .nil
  | _, _, n + 1, .cons _ t => DtA.drop n t
theorem DtA.reverse : ∀ {vs : List V} {ds : List D}, DtA S H vs ds → DtA S H vs.reverse ds.reverse
  | _, _, .nil => .nil
  | _, _, .cons h t => by
    rw [List.reverse_cons, List.reverse_cons]
    exact (DtA.reverse t).snoc h
theorem DtA.strs_eq : ∀ {vs : List V} {l : List Str}, DtA S H vs (l.map D.str) → vs = l.map V.str
  | _, [], h => by cases h; rfl
  | _, x :: l, h => by
    cases h with
    | cons h1 h2 =>
      cases h1
      rw [DtA.strs_eq h2]
      rfl
theorem DtA.ints_eq : ∀ {vs : List V} {l : List Int}, DtA S H vs (l.map D.int) → vs = l.map V.int
  | _, [], h => by cases h; rfl
  | _, x :: l, h => by
    cases h with
    | cons h1 h2 =>
      cases h1
      rw [DtA.ints_eq h2]
      rfl
theorem DtA.bls_eq : ∀ {vs : List V} {l : List Bool}, DtA S H vs (l.map D.bl) → vs = l.map V.bl
  | _, [], h => by cases h; rfl
  | _, x :: l, h => by
    cases h with
    | cons h1 h2 =>
      cases h1
      rw [DtA.bls_eq h2]
      rfl
end
mutual
def D.flat : D → Bool
  | .lst _ => false
  | .tup ds => D.flats ds
  | .ins _ _ ds => D.flats ds
  | .opq _ _ => false
  | .ftp _ => false
  | _ => true
def D.flats : List D → Bool
  | [] => true
  | d :: ds => D.flat d && D.flats ds
end
mutual
theorem Dt.nl {H : Hp} {l : Addr} {xs : List V} (hl : H l = some (.lst xs)) : ∀ (d : D) {v : V}, D.flat d = true → Dt N0 H v d → Dt (fun a => a = l) H v d
  | .non, _, _, h => by cases h; exact .non
  | .bl b, _, _, h => by cases h; exact .bl b
  | .int i, _, _, h => by cases h; exact .int i
  | .str x, _, _, h => by cases h; exact .str x
  | .lst ds, _, f, _ => by rw [D.flat] at f; cases f
  | .tup ds, _, f, h => by
    rw [D.flat] at f
    cases h with
    | tup n ha hs => exact .tup (fun z => by rw [z, hl] at ha; cases ha) ha (DtA.nl hl ds f hs)
  | .ins C ns ds, _, f, h => by
    rw [D.flat] at f
    cases h with
    | ins n ha hn hs => exact .ins (fun z => by rw [z, hl] at ha; cases ha) ha hn (DtA.nl hl ds f hs)
  | .ptr a, _, _, h => by cases h; exact .ptr a
  | .ty n, _, _, h => by cases h; exact .ty n
  | .opq a o, _, f, h => by rw [D.flat] at f; cases f
  | .ftp ds, _, f, h => by rw [D.flat] at f; cases f
theorem DtA.nl {H : Hp} {l : Addr} {xs : List V} (hl : H l = some (.lst xs)) : ∀ (ds : List D) {vs : List V}, D.flats ds = true → DtA N0 H vs ds → DtA (fun a => a = l) H vs ds
  | [], _, _, h => by cases h; exact .nil
  | d :: ds, _, f, h => by
    rw [D.flats, Bool.and_eq_true] at f
    cases h with
    | cons h1 h2 => exact .cons (Dt.nl hl d f.1 h1) (DtA.nl hl ds f.2 h2)
end
mutual
def D.py : D → Option PyData
  | .non => some .none
  | .bl b => some (.bool b)
  | .int i => some (.int i)
  | .str x => some (.str x)
  | .lst ds => (D.pys ds).map .list
  | .tup ds => (D.pys ds).map .tuple
  | .ftp ds => (D.pys ds).map .tuple
  | _ => none
def D.pys : List D → Option (List PyData)
  | [] => some []
  | d :: ds => match D.py d, D.pys ds with
    | some p, some q => some (p :: q)
    | _, _ => none
end
mutual
theorem Dt.dp {K : PySem.W.Frag} {S : Addr → Prop} {H : Hp} : ∀ (d : D) {v : V} {p : PyData}, Dt S H v d → D.py d = some p → Dp K H v p
  | .non, _, _, h, e => by cases h; cases e; exact .non
  | .bl b, _, _, h, e => by cases h; cases e; exact .bl b
  | .int i, _, _, h, e => by cases h; cases e; exact .int i
  | .str x, _, _, h, e => by cases h; cases e; exact .str x
  | .lst ds, _, _, h, e => by
    cases h with
    | lst n ha hs =>
      rw [D.py] at e
      cases q : D.pys ds with
      | none => rw [q] at e; cases e
      | some l =>
        rw [q] at e
        cases e
        exact .lst (SqL.of ha) (DtA.dp ds hs q)
  | .tup ds, _, _, h, e => by
    cases h with
    | tup n ha hs =>
      rw [D.py] at e
      cases q : D.pys ds with
      | none => rw [q] at e; cases e
      | some l =>
        rw [q] at e
        cases e
        exact .tup (SqT.of ha) (DtA.dp ds hs q)
  | .ins C ns ds, _, _, h, e => by rw [D.py] at e <;> first | cases e | (intros; contradiction)
  | .ptr a, _, _, h, e => by rw [D.py] at e <;> first | cases e | (intros; contradiction)
  | .ty a, _, _, h, e => by rw [D.py] at e <;> first | cases e | (intros; contradiction)
  | .opq a o, _, _, h, e => by rw [D.py] at e <;> first | cases e | (intros; contradiction)
  | .ftp ds, _, _, h, e => by
    cases h with
    | ftp n ha hd hs =>
      rw [D.py] at e
      cases q : D.pys ds with
      | none => rw [q] at e; cases e
      | some l =>
        rw [q] at e
        cases e
        exact .tup (Or.inl (Or.inr ⟨_, ha⟩)) (DtA.dp ds hs q)
theorem DtA.dp {K : PySem.W.Frag} {S : Addr → Prop} {H : Hp} : ∀ (ds : List D) {vs : List V} {ps : List PyData}, DtA S H vs ds → D.pys ds = some ps → DpAll K H vs ps
  | [], _, _, h, e => by cases h; rw [D.pys] at e; cases e; exact .nil
  | d :: ds, _, _, h, e => by
    cases h with
    | cons h1 h2 =>
      rw [D.pys] at e
      cases q1 : D.py d with
      | none => rw [q1] at e; cases e
      | some p =>
        cases q2 : D.pys ds with
        | none => rw [q1, q2] at e; cases e
        | some ps =>
          rw [q1, q2] at e
          cases e
          exact .cons (Dt.dp d h1 q1) (DtA.dp ds h2 q2)
end
end U
namespace U
open PySem PySem.Spec PyProof.Rows L2
/-- a def's promise where no show is under way -/
structure FnG (P : Program) (w : World) (K : PySem.W.Frag) (mg : Str → Option Value) (base : Heap) (k : Nat) (f : Addr) (fd : FuncData) (ps : List Str) (sp : Sp) : Prop where
  len : ∀ vs H Q E, sp vs H Q E → vs.length = ps.length
  run : ∀ (A : Around) (outer : List Env) (s : Shared) (H : Hp) (args : Args) (us : List Value) (vs : List V) (Q : VK) (E : XK), Room k A → A.guards = some [] →
    Env0 P w K mg base A outer s H → BindsTo s fd args (ps.zip us) → Vals vs us → sp vs H Q E → codeAny (model P w) A (.call (.ref f) args) (CR L2.CX0 outer P w H s Q E) s
section
variable {P : Program} {w : World} {K : PySem.W.Frag} {mg : Str → Option Value} {base : Heap} {x qual : Str} {st : Stmt} {f : Addr} {fd : FuncData} {N ps : List Str} {k : Nat} {sp : Sp}
/-- by its body -/
theorem fnG_of (F : L2.Fun K x qual st f fd) (S : FnScope N ps (L2.defScope st)) (len : ∀ vs H Q E, sp vs H Q E → vs.length = ps.length)
    (hb : ∀ (cdv : Value) (A : Around) (outer : List Env) (s : Shared) (H : Hp) (vs : List V) (Q : VK) (E : XK), Room k (A.deeper (envOfC qual (L2.defScope st) s.heap.objs.size f cdv)) → A.guards = some [] → sp vs H Q E →
      ∃ t, PSs (cxOf L2.CX0 P w K mg base N qual (L2.defScope st) f cdv A outer s H E).nox (L2.defBody st) t ∧ t { nx := fun _ H' => Q .non H', rt := Q } (start N vs) H) :
    FnG P w K mg base (k + 1) f fd ps sp := by
  obtain ⟨oc, od, kV, doc, pm, an, cdv, ct, osl, rfl, lk, hcd⟩ := F.ex
  refine ⟨len, fun A outer s H args us vs Q E hr hg e0 hbd r hsp => ?_⟩
  have hl : vs.length = ps.length := len _ _ _ _ hsp
  have KX : K.In s.heap := e0.mod.kin.keeps (fun b o e => (e0.bs b o e).1)
  have lim : s.heap.NoLimit := e0.mod.nolimit.keeps (fun b o e => (e0.bs b o e).1)
  have kinds : ∀ y ∈ ps.zip us, (L2.defScope st).names.lookup y.1 = some .local ∨ ((L2.defScope st).names.lookup y.1 = some .cell ∧ ((cellsFrom (s.heap.objs.size + 1) (L2.defScope st).names []).lookup y.1).isSome = true) := by
    rintro ⟨n, v⟩ hy
    rcases S.par n (List.of_mem_zip hy).1 with q | q
    · exact Or.inl q
    · exact Or.inr ⟨q, PySem.W.cellsFrom_some _ _ _ (Or.inl q)⟩
  have lkd := KX _ _ lk
  have crec := PySem.W.codeRec_of KX hcd
  refine codeAny_call_function hr.depth lkd rfl S.co S.gen rfl crec (hbd _ _ _ _ ?_)
  refine wpAny_newFunctionEnv_cells S.kind kinds (fun env he s1 z => ?_)
  subst he
  refine ⟨lim.keeps z.toInCall.keep, codeAny_func ?_⟩
  have hr1 := hr.deeper (envOfC qual (L2.defScope st) s.heap.objs.size f cdv)
  obtain ⟨t, ht0, hq⟩ := hb cdv A outer s H vs Q E hr1 hg hsp
  have ht := ht0.nox
  have I := inv_start (CX := L2.CX0) (E := E) S hr.hd e0 hl r z
  have go := ht.run [] s1 (start N vs) H _ I hq
  refine wpAny_mono go ?_ (fun e s' hs => hs)
  intro fl s' hs
  cases fl with
  | next =>
    obtain ⟨σ', H', J, q⟩ := hs
    exact ⟨V.non, H', J.os, J.bare, J.base, J.hok, rfl, q⟩
  | brk =>
    obtain ⟨_, _, _, q⟩ := hs
    exact q.elim
  | cont =>
    obtain ⟨_, _, _, q⟩ := hs
    exact q.elim
  | ret u =>
    obtain ⟨v, σ', H', J, rv, q⟩ := hs
    exact ⟨v, H', J.os, J.bare, J.base, J.hok, rv, q⟩
end
section
variable {X : Cx} {k : Nat} {f C : Addr} {fd : FuncData} {ps ks : List Str} {sp : Sp} {x : Str} {p pos : Pos} {e : Expr} {es : List Expr} {t tk : TA} {kws : List Keyword}
/-- x(e, ..), x a def with such a promise -/
theorem pe_callG (F : FnG X.prog X.w X.K X.mg X.base k f fd ps sp) (hr : Room k X.A) (hgd : X.A.guards = some []) (hg : Gl X x) (hm : X.mg x = some (.ref f)) (hk : PySem.W.keepIn X.K (.ref f) = true) (hb : Binds X.K fd ps [])
    (ha : PA X (e :: es) t) (hdb : (x == ("__debug__" : Str)) = false := by decide) (he : starEach (e :: es) X.env = (false, eval e X.env) :: starEach es X.env := by rfl) (hpl : (backTo pos (starEach es X.env)).any (·.1) = false := by rfl) :
    PE X (.Call (.Name x p) (e :: es) [] pos) (tCall sp [] L2.E0 t) := by
  refine ⟨fun pins s σ H Q I h => wpAny_Call_Name_kw (ld_glob I hg hm ?_ hdb)⟩
  have ga := thn (ha.run pos pins s σ H _ I h) (Q' := fun us s1 => X.K.In s1.heap ∧ wpAny (model X.prog X.w) X.A (call (.ref f) us) (EP X pins σ Q) X.xe s1) (fun us s1 hh => by
    obtain ⟨vs, H1, I1, r, q⟩ := hh
    rw [List.append_nil] at q
    refine ⟨I1.kIn, ?_⟩
    have hl : (us ++ []).length = ps.length := by rw [List.append_nil, ← r.length]; exact F.len _ _ _ _ q
    have hbt := hb s1 us I1.kIn hl
    rw [List.append_nil] at hbt
    refine wpAny_call (codeAny_mono (F.run X.A X.stack s1 H1 ⟨us, []⟩ us vs Q L2.E0 hr hgd I1.env0 hbt r q) ?_)
    intro r' s' hq
    cases r' with
    | error z => exact False.elim hq
    | ok fl =>
      cases fl with
      | ret u => exact I1.after hq
      | next => exact False.elim hq
      | brk => exact False.elim hq
      | cont => exact False.elim hq)
  exact PySem.W.callWith_K (h₀ := X.base) I.ok.mod.kin hk ga he hpl
/-- x(k = v, ..): keywords alone -/
theorem pe_callN0 {g : List Value → List Value → List Value} {gV : List V → List V → List V} (F : FnOk X.prog X.w X.K X.mg X.base L2.CX0 k f fd ps sp) (hr : Room k X.A) (hg : Gl X x) (hm : X.mg x = some (.ref f)) (hk : PySem.W.keepIn X.K (.ref f) = true)
    (hb : KBn X.K fd ps 0 ks g gV) (hkw : PK X kws tk) (hall : (backToKw pos (keywordEach kws X.env)).all (·.1.isSome) = true := by rfl) (hks : (backToKw pos (keywordEach kws X.env)).filterMap (·.1) = ks := by rfl)
    (hdb : (x == ("__debug__" : Str)) = false := by decide) (hpl : ((backTo pos (starEach [] X.env)).any (·.1) || (backToKw pos (keywordEach kws X.env)).any (·.1.isNone)) = false := by rfl) :
    PE X (.Call (.Name x p) [] kws pos) (tCallN 0 ks.length sp gV L2.E0 tNil tk) := by
  refine ⟨fun pins s σ H Q I h => wpAny_Call_Name_kw (ld_glob I hg hm ?_ hdb)⟩
  have gk := thn (hkw.run pos pins s σ H _ I h) (Q' := fun ws s2 => X.K.In s2.heap ∧ wpAny (model X.prog X.w) X.A (call (.ref f) [] (ks.zip ws)) (EP X pins σ Q) X.xe s2) (fun ws s2 hh => by
    obtain ⟨zs, H2, I2, rz, l1, l2, q2⟩ := hh
    exact ⟨I2.kIn, run_fnN (us := []) (vs := []) F hr hb pass0 I2 .nil rz rfl l2 q2⟩)
  rw [← hks] at gk
  exact PySem.W.callWith_KW0 (h₀ := X.base) I.ok.mod.kin hk hall gk hpl
end
def rRepr (K : PySem.W.Frag) : List V → Hp → VK → Prop := fun xs H Q => ∃ (v : V) (p : PyData), xs = [v] ∧ Dp K H v p ∧ PyData.showable p = true ∧ PyData.hasDict p = false ∧ PyData.depth p ≤ 40 ∧ (PyData.shown p).length ≤ sizeLine ∧ Q (.str (PyData.shown p)) H
theorem call_repr {X : Cx} (hg : X.A.guards = some []) (hu : X.A.units + 64 < cLine) : CallR X (.builtin "repr") (rRepr X.K) := by
  intro pins s σ H xs us Q I r h
  obtain ⟨v, p, rfl, hd, hs, hn, hdp, hz, q⟩ := h
  obtain ⟨u, rfl, ru⟩ := vals1 r
  have fin : ∀ (h' : Heap) (tu : Tok) (tk : Nat), (∀ b o, s.heap.get? b = some o → h'.get? b = some o) → EP X pins σ Q (.str (PyData.shown p) tu) { s with heap := h', toks := tk } :=
    fun h' tu tk hk => ⟨.str (PyData.shown p), H, I.kept hk, ⟨_, rfl⟩, q⟩
  obtain ⟨as, rd⟩ := Dp.reads I p v u hd ru
  cases hd with
  | non =>
    cases ru
    rw [PyData.shown_none] at fin
    exact P.repr_of_none (fin _ _ _ fun _ _ e => e)
  | bl b =>
    cases ru
    rw [PyData.shown_bool] at fin
    exact P.repr_of_bool (fin _ _ _ fun _ _ e => e)
  | int i =>
    obtain ⟨t, rfl⟩ := ru
    rw [PyData.shown_int] at fin
    have hi : i.natAbs.log2 < 1920 := by simpa [PyData.showable] using hs
    exact P.repr_of_int hi (fin _ _ _ fun _ _ e => e)
  | str y =>
    obtain ⟨t, rfl⟩ := ru
    rw [PyData.shown_str] at fin hz
    exact P.repr_of_str (fin _ _ _ fun _ _ e => e) hz
  | lst _ _ =>
    cases ru
    exact repr_of_reads' (h₀ := s.heap) rd hs (fun z => by rw [hn] at z; cases z) hg (by omega) (fun _ _ e => e) (fun h' tu tk hk => fin h' tu tk hk) hz
  | tup _ _ =>
    cases ru
    exact repr_of_reads' (h₀ := s.heap) rd hs (fun z => by rw [hn] at z; cases z) hg (by omega) (fun _ _ e => e) (fun h' tu tk hk => fin h' tu tk hk) hz
end U
namespace U
open PySem PySem.Spec PyProof.Rows L2
def spLaw (K : PySem.W.Frag) : Sp := fun vs H Q _ => ∃ (a : Addr) (ns : List Int), vs = [.ref a] ∧ SqL K H a (ns.map V.int) ∧ ns.length ≤ 63 ∧ ∀ H', Q (.bl true) H'
def scrO (vs : List Value) : Obj := { cls := .type "list", data := .seq vs.toArray }
/-- the script alone is tracked, where it is none of the written part -/
noncomputable def scrH (K : PySem.W.Frag) (a : Addr) (vs : List Value) (ns : List Int) : Hp := fun b => if b = a ∧ K.lookup a = none then some (.frz (scrO vs) (.lst (ns.map V.int))) else none
theorem scrH_some {K : PySem.W.Frag} {a b : Addr} {vs : List Value} {ns : List Int} {u : HO} (h : scrH K a vs ns b = some u) : b = a ∧ K.lookup a = none ∧ u = .frz (scrO vs) (.lst (ns.map V.int)) := by
  unfold scrH at h
  split at h
  · rename_i c
    exact ⟨c.1, c.2, (Option.some.inj h).symm⟩
  · cases h
theorem lawG {P : Program} {w : World} {K : PySem.W.Frag} {mg mb : Str → Option Value} {k : Nat} {fa a : Addr} {fd : FuncData} {x : Str} {s : Shared} {vs : List Value} {ns : List Int}
    (KX : K.In s.heap) (hns : s.heap.Ns mainGlobals mg) (hb : s.heap.Ns builtinsNs mb) (hbb : ∀ y : Str, y ≠ "__name__" → mb y = bootBuiltins y) (hlim : s.heap.NoLimit) (hgen : s.gens = #[])
    (ha : s.heap.get? a = some (scrO vs)) (hi : IntsAre vs ns) (hl : ns.length ≤ 63) (hr : Room k callerA)
    (F : ∀ base : Heap, K.In base → base.Ns mainGlobals mg → FnG P w K mg base k fa fd [x] (spLaw K)) (hbind : ∀ (t : Shared) (u : Value), BindsTo t fd ⟨[u], []⟩ [(x, u)]) :
    codeAny (model P w) callerA (.call (.ref fa) ⟨[.ref a], []⟩) (fun r s' => r = .ok (.ret (.bool true)) ∧ OldK s.heap s'.heap ∧ s'.os = s.os ∧ AllBare s'.gens) s := by
  have rv := vals_ints hi
  have lenV := hi.length
  have hsz : ns.length ≤ sizeLine := Nat.le_trans hl (by decide)
  have hok : HOk P w (scrH K a vs ns) s.heap := by
    intro b u e
    obtain ⟨rfl, _, rfl⟩ := scrH_some e
    exact ⟨ha, by rw [List.length_map]; exact hsz, vs, _, rv, ha⟩
  have untr : ∀ {b : Addr} {o : Obj} {es : Array DictEntry} {ep : Nat}, s.heap.get? b = some o → o.data = .dict es ep → scrH K a vs ns b = none := by
    intro b o es ep e d
    cases q : scrH K a vs ns b with
    | none => rfl
    | some u =>
      obtain ⟨rfl, _, _⟩ := scrH_some q
      rw [ha] at e
      cases e
      cases d
  have nsB : ∀ {b : Addr} {m : Str → Option Value}, s.heap.Ns b m → (hidT s.heap (scrH K a vs ns)).Ns b m := by
    rintro b m ⟨o, es, ep, e, d, r⟩
    exact ⟨o, es, ep, hidT_get e (untr e d), d, r⟩
  have KB : K.In (hidT s.heap (scrH K a vs ns)) := by
    intro b o e
    refine hidT_get (KX b o e) ?_
    cases q : scrH K a vs ns b with
    | none => rfl
    | some u =>
      obtain ⟨rfl, z, _⟩ := scrH_some q
      rw [z] at e
      cases e
  have hS : SqL K (scrH K a vs ns) a (ns.map V.int) := by
    cases hk : K.lookup a with
    | none => exact .inl (.inr ⟨scrO vs, if_pos ⟨rfl, hk⟩⟩)
    | some o =>
      have e := KX a o hk
      rw [ha] at e
      cases e
      refine .inr ⟨scrO vs, vs.toArray, _, hk, rfl, rfl, rfl, ?_, ?_⟩
      · rw [List.size_toArray, lenV]
        exact hsz
      · simpa using rv
  have hM : Mod K mg (hidT s.heap (scrH K a vs ns)) := by
    obtain ⟨mc, h1, h2⟩ := hlim
    exact ⟨KB, nsB hns, ⟨mb, nsB hb, hbb⟩, mc, nsB h1, h2⟩
  have e0 : Env0 P w K mg (hidT s.heap (scrH K a vs ns)) callerA [] s (scrH K a vs ns) :=
    ⟨rfl, hM, fun b o e => of_hidT e, Nat.le_of_eq (hidT_size _ _), trivial, (fun b hb => by cases hb), hok, .of_eq hgen⟩
  have go := (F _ KB (nsB hns)).run callerA [] s _ ⟨[.ref a], []⟩ [.ref a] [.ref a] (fun v _ => v = .bl true) (fun _ _ _ => False) hr rfl e0 (hbind s (.ref a)) (.cons rfl .nil) ⟨a, ns, rfl, hS, hl, fun _ => rfl⟩
  refine codeAny_mono go ?_
  intro r s' h
  cases r with
  | error e => exact False.elim h
  | ok fl =>
    cases fl with
    | next => exact False.elim h
    | brk => exact False.elim h
    | cont => exact False.elim h
    | ret u =>
      obtain ⟨v, H', os, bare, un, hok', r', rfl⟩ := h
      cases (show u = Value.bool true from r')
      refine ⟨rfl, OldK.of_keep ?_, os, bare⟩
      intro b o e
      cases q : scrH K a vs ns b with
      | none => exact un.keep b o e q (fun z => by cases z) (fun z => by cases z)
      | some u =>
        obtain ⟨rfl, _, rfl⟩ := scrH_some q
        have z2 := un.frzs _ _ _ q
        obtain ⟨e2, _⟩ := hok' _ _ z2
        rw [ha] at e
        cases e
        exact e2
theorem walkG {l : PySem.W.OpenLaw} {k : Nat} {q : Program} {loose : List Str} {XP : (Str → Option Value) → Heap → Prop} {YP : World → Heap → Prop} {d : DefRec} {K : Params → PySem.W.Frag} {x : Str}
    (hn : l.most = some 63) (hdf : d.params.defaults = []) (hr : Room k callerA) (hY : ∀ (w : World) (h : Heap), YP w h → (K w.params).In h)
    (F : ∀ (w : World) (mg : Str → Option Value) (fa : Addr) (h : Heap), (K w.params).In h → h.Ns mainGlobals mg → mg d.name = some (.ref fa) →
      ∃ fd : FuncData, (∀ (t : Shared) (u : Value), BindsTo t fd ⟨[u], []⟩ [(x, u)]) ∧ ∀ base : Heap, (K w.params).In base → base.Ns mainGlobals mg → FnG l.prog w (K w.params) mg base k fa fd [x] (spLaw (K w.params))) :
    PySem.W.WalkO q loose XP YP l.row.toRowW d [] (fun f vs => PySem.call f vs) := by
  refine Att.attach_call hn hdf ?_
  intro w s₀ s₁ mg mb fa o pm cd doc a vs ns G Y ho hd hcd hmg hobj hints hlen hg
  obtain ⟨fd, hb, hF⟩ := F w mg fa _ (hY w _ Y) G.T.g hmg
  exact lawG (hY w _ Y) G.T.g G.T.b G.T.builtins G.T.nolimit hg hobj hints hlen hr hF hb
section
variable {P : Program} {w : World} {H H1 H2 : Hp} {h h' : Heap} {p : Addr} {o : HO} {φ : Heap → Prop} {fs ex : List Addr}
theorem hok_in (ok : HOk P w H h) (hp : H p = some (.ext φ)) (new : ObjOk P w (upd H p o) h p o) : HOk P w (upd H p o) h := by
  intro b u e
  by_cases hb : b = p
  · subst hb
    rw [upd_same] at e
    cases e
    exact new
  · rw [upd_ne hb] at e
    refine (ok b u e).stay (fun c v _ q => q) (fun c q => ?_) (fun c xs q => ?_)
    · rw [upd_ne (fun z => by rw [z, hp] at q; cases q)]
      exact q
    · rw [upd_ne (fun z => by rw [z, hp] at q; cases q)]
      exact q
theorem hok_out {xs : List V} (ok : HOk P w H h) (hp : H p = some (.lst xs)) (hφ : φ h) (st : ∀ h1 h2 : Heap, φ h1 → (∀ u, h1.get? p = some u → h2.get? p = some u) → φ h2) : HOk P w (upd H p (.ext φ)) h := by
  intro b u e
  by_cases hb : b = p
  · subst hb
    rw [upd_same] at e
    cases e
    obtain ⟨_, its, n, _, z⟩ := ok _ _ hp
    exact ⟨hφ, ⟨_, z⟩, st⟩
  · rw [upd_ne hb] at e
    refine (ok b u e).stay (fun c v _ q => q) (fun c q => ?_) (fun c xs q => ?_)
    · rw [upd_ne (fun z => by rw [z, hp] at q; cases q)]
      exact q
    · rw [upd_ne (fun z => by rw [z, hp] at q; cases q)]
      exact q
theorem un_in (u : Un fs ex (upd H p o) H1 h h') (hp : H p = some (.ext φ)) : Un fs ex H H1 h h' := by
  have nn : ∀ b, H b = none → upd H p o b = none := fun b n => by
    rw [upd_ne (fun z => by rw [z, hp] at n; cases n)]
    exact n
  have ne : ∀ b v, H b = some v → (∀ ψ, v ≠ .ext ψ) → upd H p o b = some v := fun b v e n => by
    rw [upd_ne (fun z => by rw [z, hp] at e; cases e; exact n _ rfl)]
    exact e
  exact ⟨fun b v e n => u.keep b v e (nn b n), fun b v e n => u.slot b v e (nn b n), fun b v e n => u.free b v e (nn b n), u.there,
    fun b xs e => u.tups b xs (ne b _ e (fun _ z => nomatch z)), fun b v t e => u.frzs b v t (ne b _ e (fun _ z => nomatch z)), fun b ps e => u.tbls b ps (ne b _ e (fun _ z => nomatch z))⟩
theorem un_out {xs : List V} (u : Un fs ex H H1 h h') (hp : H1 p = some (.lst xs)) : Un fs ex H (upd H1 p (.ext φ)) h h' := by
  have ne : ∀ b v, H1 b = some v → (∀ ys, v ≠ .lst ys) → upd H1 p (.ext φ) b = some v := fun b v e n => by
    rw [upd_ne (fun z => by rw [z, hp] at e; cases e; exact n _ rfl)]
    exact e
  refine ⟨u.keep, u.slot, fun b v e n hx => ?_, u.there, fun b xs e => ne b _ (u.tups b xs e) (fun _ z => nomatch z), fun b v t e => ne b _ (u.frzs b v t e) (fun _ z => nomatch z), fun b ps e => ?_⟩
  · have z := u.free b v e n hx
    rw [upd_ne (fun q => by rw [q, hp] at z; cases z)]
    exact z
  · obtain ⟨m, e1⟩ := u.tbls b ps e
    exact ⟨m, ne b _ e1 fun _ z => nomatch z⟩
end
def potP (p : Addr) : Heap → Prop := fun h => ∃ (a b c : Int) (its : List Value) (n : Nat), Vals [.int a, .int b, .int c] its ∧ h.get? p = some { cls := .type "list", data := .seq its.toArray n }
def potO (p : Addr) : HO := .ext (potP p)
def Pot (H : Hp) (p : Addr) : Prop := H p = some (potO p)
def potL (a b c : Int) : HO := .lst [.int a, .int b, .int c]
theorem pot_st {p : Addr} : ∀ h1 h2 : Heap, potP p h1 → (∀ u, h1.get? p = some u → h2.get? p = some u) → potP p h2 := fun h1 h2 ⟨a, b, c, its, n, v, e⟩ k => ⟨a, b, c, its, n, v, k _ e⟩
theorem Pot.sm {H H' : Hp} {p : Addr} (h : Pot H p) (e : Same H H') : Pot H' p := e _ _ h
theorem Pot.go {S : Addr → Prop} {H H' : Hp} {p : Addr} (h : Pot H p) (e : Ext S H H') (n : ¬ S p) : Pot H' p := e _ _ n h
section
variable {P : Program} {w : World} {K : PySem.W.Frag} {mg : Str → Option Value} {base : Heap} {k : Nat} {f : Addr} {fd : FuncData} {ps : List Str} {sp sp' : Sp}
/-- a def that changes the pot: from its promise over the list itself -/
theorem fn_pot (F : FnOk P w K mg base L2.CX0 k f fd ps sp) (len : ∀ vs H Q E, sp' vs H Q E → vs.length = ps.length)
    (go : ∀ vs H Q E, sp' vs H Q E → ∃ p, Pot H p ∧ ∀ a b c, sp vs (upd H p (potL a b c)) (fun v H' => (∃ x y z, H' p = some (potL x y z)) ∧ Q v (upd H' p (potO p))) E) :
    FnOk P w K mg base L2.CX0 k f fd ps sp' := by
  refine ⟨len, fun A outer s H args us vs Q E hr e0 hb r hsp => ?_⟩
  obtain ⟨p, hp, g⟩ := go _ _ _ _ hsp
  obtain ⟨⟨a, b, c, its, n, rv, hget⟩, _, _⟩ := e0.hok p _ hp
  have np : ∀ b, H b = none → upd H p (potL a b c) b = none := fun b z => by
    rw [upd_ne (fun q => by rw [q, hp] at z; cases z)]
    exact z
  have np' : ∀ q, H q = none → upd H p (potL a b c) q = none := fun q z => by
    rw [upd_ne (fun t => by rw [t, hp] at z; cases z)]
    exact z
  have e1 : Env0 P w K mg base A outer s (upd H p (potL a b c)) :=
    ⟨e0.frames, e0.mod, fun q o e => ⟨(e0.bs q o e).1, np' q (e0.bs q o e).2⟩, e0.bsz, e0.funs, fun q hq => np' q (e0.frf q hq), hok_in e0.hok hp ⟨by show 3 ≤ sizeLine; decide, its, n, rv, hget⟩, e0.bare⟩
  refine codeAny_mono (F.run A outer s _ args us vs _ E hr e1 hb r (g a b c)) ?_
  intro r' s' hq
  cases r' with
  | error z => exact hq
  | ok fl =>
    cases fl with
    | next => exact hq
    | brk => exact hq
    | cont => exact hq
    | ret u =>
      obtain ⟨v, H', os, bare, un, hok', rel, ⟨x, y, z, hx⟩, q⟩ := hq
      have un2 := un_out (φ := potP p) (un_in un hp) hx
      obtain ⟨_, its', n', rv', e'⟩ := hok' p _ hx
      exact ⟨v, _, os, bare, un2, hok_out hok' hx ⟨x, y, z, its', n', rv', e'⟩ pot_st, rel, q⟩
/-- a def that makes a pot -/
theorem fn_potOut (F : FnOk P w K mg base L2.CX0 k f fd ps sp) (len : ∀ vs H Q E, sp' vs H Q E → vs.length = ps.length)
    (go : ∀ vs H Q E, sp' vs H Q E → sp vs H (fun v H' => ∃ p x y z, H' p = some (potL x y z) ∧ Q v (upd H' p (potO p))) E) :
    FnOk P w K mg base L2.CX0 k f fd ps sp' := by
  refine ⟨len, fun A outer s H args us vs Q E hr e0 hb r hsp => ?_⟩
  refine codeAny_mono (F.run A outer s _ args us vs _ E hr e0 hb r (go _ _ _ _ hsp)) ?_
  intro r' s' hq
  cases r' with
  | error z => exact hq
  | ok fl =>
    cases fl with
    | next => exact hq
    | brk => exact hq
    | cont => exact hq
    | ret u =>
      obtain ⟨v, H', os, bare, un, hok', rel, p, x, y, z, hx, q⟩ := hq
      obtain ⟨_, its', n', rv', e'⟩ := hok' p _ hx
      exact ⟨v, _, os, bare, un_out (φ := potP p) un hx, hok_out hok' hx ⟨x, y, z, its', n', rv', e'⟩ pot_st, rel, q⟩
end
/-- a draw: a number below n -/
def spDraw : Sp := fun vs H Q _ => ∃ (p : Addr) (n : Int), vs = [.ref p, .int n] ∧ Pot H p ∧ (0 < n ∧ n < 1073741824) ∧ ∀ (r : Int) (H' : Hp), Same H H' → 0 ≤ r → r < n → Q (.int r) H'
/-- .. over the list itself -/
def spDraw1 : Sp := fun vs H Q _ => ∃ (p : Addr) (n a b c : Int), vs = [.ref p, .int n] ∧ H p = some (potL a b c) ∧ (0 < n ∧ n < 1073741824) ∧
  ∀ (r x y z : Int) (H' : Hp), Ext (fun q => q = p) H H' → H' p = some (potL x y z) → 0 ≤ r → r < n → Q (.int r) H'
theorem fn_draw {P : Program} {w : World} {K : PySem.W.Frag} {mg : Str → Option Value} {base : Heap} {k : Nat} {f : Addr} {fd : FuncData} {ps : List Str} (F : FnOk P w K mg base L2.CX0 k f fd ps spDraw1) (h2 : ps.length = 2) : FnOk P w K mg base L2.CX0 k f fd ps spDraw := by
  refine fn_pot F (fun vs H Q E h => ?_) (fun vs H Q E h => ?_)
  · obtain ⟨p, n, rfl, _⟩ := h
    rw [h2]
    rfl
  · obtain ⟨p, n, rfl, hp, hn, q⟩ := h
    refine ⟨p, hp, fun a b c => ⟨p, n, a, b, c, rfl, upd_same, hn, fun r x y z H' e hx h0 h1 => ⟨⟨x, y, z, hx⟩, q r _ (fun c o hc => ?_) h0 h1⟩⟩⟩
    by_cases hb : c = p
    · subst hb
      rw [show H c = some (potO c) from hp] at hc
      cases hc
      exact upd_same
    · rw [upd_ne hb]
      exact e c o hb (by rw [upd_ne hb]; exact hc)
/-- a new pot -/
def spPot (K : PySem.W.Frag) : Sp := fun vs H Q _ => ∃ (a : Addr) (ns : List Int) (i : Nat), vs = [.ref a, .int i] ∧ SqL K H a (ns.map V.int) ∧ ns.length ≤ 63 ∧ i ≤ 63 ∧ ∀ (p : Addr) (H' : Hp), Same H H' → Pot H' p → Q (.ref p) H'
def spPot1 (K : PySem.W.Frag) : Sp := fun vs H Q _ => ∃ (a : Addr) (ns : List Int) (i : Nat), vs = [.ref a, .int i] ∧ SqL K H a (ns.map V.int) ∧ ns.length ≤ 63 ∧ i ≤ 63 ∧
  ∀ (p : Addr) (x y z : Int) (H' : Hp), Same H H' → H p = none → H' p = some (potL x y z) → Q (.ref p) H'
theorem fn_newPot {P : Program} {w : World} {K : PySem.W.Frag} {mg : Str → Option Value} {base : Heap} {k : Nat} {f : Addr} {fd : FuncData} {ps : List Str} (F : FnOk P w K mg base L2.CX0 k f fd ps (spPot1 K)) (h2 : ps.length = 2) : FnOk P w K mg base L2.CX0 k f fd ps (spPot K) := by
  refine fn_potOut F (fun vs H Q E h => ?_) (fun vs H Q E h => ?_)
  · obtain ⟨a, ns, i, rfl, _⟩ := h
    rw [h2]
    rfl
  · obtain ⟨a, ns, i, rfl, hS, hn, hi, q⟩ := h
    refine ⟨a, ns, i, rfl, hS, hn, hi, fun p x y z H' e hp hx => ⟨p, x, y, z, hx, q p _ (fun c o hc => ?_) upd_same⟩⟩
    rw [upd_ne (ne_of_none hc hp)]
    exact e c o hc
end U
namespace U
open PySem PySem.Spec PyProof.Rows L2
section
variable {X : Cx}
def rAddU : R2 := fun x y H Q => match x, y with
  | .int i, .int j => Q (.int (i + j)) H
  | .str a, .str b => a.length + b.length ≤ sizeLine ∧ Q (.str (a ++ b)) H
  | .ref p, .ref q => ∃ xs ys, H p = some (.lst xs) ∧ H q = some (.lst ys) ∧ xs.length + ys.length ≤ sizeLine ∧ ∀ r, H r = none → Q (.ref r) (upd H r (.lst (xs ++ ys)))
  | _, _ => False
theorem op_addU : OpR X (binaryOp .Add) rAddU := by
  intro pins s σ H x y v u Q I rx ry h
  cases x with
  | int i =>
    cases y with
    | int j => exact op_add pins s σ H _ _ v u Q I rx ry ⟨i, j, rfl, rfl, h⟩
    | _ => exact h.elim
  | str a =>
    cases y with
    | str b => exact op_add_str pins s σ H _ _ v u Q I rx ry ⟨a, b, rfl, rfl, h.1, h.2⟩
    | _ => exact h.elim
  | ref p =>
    cases y with
    | ref q =>
      obtain ⟨xs, ys, h1, h2, h3, h4⟩ := h
      exact op_cat pins s σ H _ _ v u Q I rx ry ⟨p, q, xs, ys, rfl, rfl, h1, h2, h3, h4⟩
    | _ => exact h.elim
  | _ => exact h.elim
/-- == of anything: data by their contents -/
def rEqU (K : PySem.W.Frag) : R2 := fun x y H Q => match x, y with
  | .ref p, .ref q => ∃ d e, Dp K H (.ref p) d ∧ Dp K H (.ref q) e ∧ SeqAt.shaped d = true ∧ SeqAt.shaped e = true ∧ Q (.bl (PyData.eqv d e)) H
  | x, y => scal x y = true ∧ Q (.bl (decide (x = y))) H
def rNeU (K : PySem.W.Frag) : R2 := fun x y H Q => match x, y with
  | .ref p, .ref q => ∃ d e, Dp K H (.ref p) d ∧ Dp K H (.ref q) e ∧ SeqAt.shaped d = true ∧ SeqAt.shaped e = true ∧ Q (.bl (!PyData.eqv d e)) H
  | x, y => scal x y = true ∧ Q (.bl (!decide (x = y))) H
def rLtU : R2 := fun x y H Q => match x, y with
  | .int i, .int j => Q (.bl (decide (i < j))) H
  | .str i, .str j => Q (.bl (decide (i.cps.toList < j.cps.toList))) H
  | _, _ => False
theorem op_ltU : OpR X (compareOp .Lt) rLtU := by
  intro pins s σ H x y v u Q I rx ry h
  cases x with
  | int i =>
    cases y with
    | int j => exact op_lt pins s σ H _ _ v u Q I rx ry ⟨i, j, rfl, rfl, h⟩
    | _ => exact h.elim
  | str a =>
    cases y with
    | str b => exact op_lt_str pins s σ H _ _ v u Q I rx ry ⟨a, b, rfl, rfl, h⟩
    | _ => exact h.elim
  | _ => exact h.elim
/-- in, not in: a sign in a text, a flat thing in a list or tuple of flat things -/
def rInU (K : PySem.W.Frag) : R2 := fun x y H Q => match y with
  | .str z => ∃ c, x = .str ⟨#[c]⟩ ∧ Q (.bl (decide (c ∈ z.cps.toList))) H
  | .ref p => ∃ xs, (SqL K H p xs ∨ SqT K H p xs) ∧ flatV x = true ∧ xs.all flatV = true ∧ Q (.bl (inV x xs)) H
  | _ => False
def rNinU (K : PySem.W.Frag) : R2 := fun x y H Q => match y with
  | .str z => ∃ c, x = .str ⟨#[c]⟩ ∧ Q (.bl (!decide (c ∈ z.cps.toList))) H
  | .ref p => ∃ xs, (SqL K H p xs ∨ SqT K H p xs) ∧ flatV x = true ∧ xs.all flatV = true ∧ Q (.bl (!inV x xs)) H
  | _ => False
theorem op_inU : OpR X (compareOp .In) (rInU X.K) := by
  intro pins s σ H x y v u Q I rx ry h
  cases y with
  | str z =>
    obtain ⟨c, rfl, q⟩ := h
    exact op_in_sign pins s σ H _ _ v u Q I rx ry ⟨c, z, rfl, rfl, q⟩
  | ref p =>
    obtain ⟨xs, h1, h2, h3, q⟩ := h
    exact op_in_seq pins s σ H _ _ v u Q I rx ry ⟨p, xs, rfl, h1, h2, h3, q⟩
  | _ => exact h.elim
/-- x[i] of a list, a tuple, a text -/
def rIxU (K : PySem.W.Frag) : R2 := fun x y H Q => match x, y with
  | .ref p, .int i => ∃ xs v, (SqL K H p xs ∨ SqT K H p xs) ∧ atI xs i = some v ∧ Q v H
  | .str z, .int i => ∃ c, z.length ≤ sizeLine ∧ atI z.cps.toList i = some c ∧ Q (.str ⟨#[c]⟩) H
  | _, _ => False
theorem ix_U : IxR X (rIxU X.K) := by
  intro value slice pins s σ H x y v u Q I rx ry h hs
  refine ix_seq value slice pins s σ H x y v u Q I rx ry ?_ hs
  cases x with
  | ref p =>
    cases y with
    | int i =>
      obtain ⟨xs, w, h1, h2, q⟩ := h
      rcases h1 with h1 | h1
      · exact .inl ⟨p, xs, i, w, rfl, rfl, h1, h2, q⟩
      · exact .inr (.inl ⟨p, xs, i, w, rfl, rfl, h1, h2, q⟩)
    | _ => exact h.elim
  | str z =>
    cases y with
    | int i =>
      obtain ⟨c, h1, h2, q⟩ := h
      exact .inr (.inr ⟨z, i, c, rfl, rfl, h1, h2, q⟩)
    | _ => exact h.elim
  | _ => exact h.elim
/-- x[i:j] of a list, a text, a tuple that is not taken whole -/
def Sli (K : PySem.W.Frag) (H : Hp) (a : Addr) (lo hi : Option Int) (o : HO) : Prop := (∃ xs, SqL K H a xs ∧ o = .lst (cutV xs lo hi)) ∨
  (∃ xs, SqT K H a xs ∧ ¬ (HT.sIx xs.length 0 lo = 0 ∧ HT.sIx xs.length xs.length hi = xs.length) ∧ o = .tup (cutV xs lo hi))
def rSlU (K : PySem.W.Frag) : V → Option Int → Option Int → Hp → VK → Prop := fun x lo hi H Q => match x with
  | .ref a => ∃ o, Sli K H a lo hi o ∧ ∀ p, H p = none → Q (.ref p) (upd H p o)
  | .str z => z.length ≤ sizeLine ∧ Q (.str (cutS z lo hi)) H
  | _ => False
theorem sl_U : SlR X (rSlU X.K) := by
  intro pins s σ H x v vl vu lo hi sl Q I rx hs pl pu h
  cases x with
  | ref a =>
    obtain ⟨o, h, q⟩ := h
    rcases h with ⟨xs, h1, rfl⟩ | ⟨xs, h1, h2, rfl⟩
    · exact sl_list pins s σ H _ v vl vu lo hi sl Q I rx hs pl pu ⟨a, xs, rfl, h1, q⟩
    · exact sl_tup pins s σ H _ v vl vu lo hi sl Q I rx hs pl pu ⟨a, xs, rfl, h1, h2, q⟩
  | str z => exact sl_str pins s σ H _ v vl vu lo hi sl Q I rx hs pl pu ⟨z, rfl, h.1, h.2⟩
  | _ => exact h.elim
theorem sli_l {K : PySem.W.Frag} {H : Hp} {a : Addr} {lo hi : Option Int} {xs : List V} (h : SqL K H a xs) : Sli K H a lo hi (.lst (cutV xs lo hi)) := .inl ⟨xs, h, rfl⟩
def rLenU (K : PySem.W.Frag) : List V → Hp → VK → Prop := fun xs H Q => match xs with
  | [.str z] => z.length ≤ sizeLine ∧ Q (.int z.length) H
  | [.ref p] => ∃ ys, (SqL K H p ys ∨ SqT K H p ys) ∧ Q (.int ys.length) H
  | _ => False
theorem call_lenU : CallR X (.builtin "len") (rLenU X.K) := by
  intro pins s σ H xs us Q I r h
  match xs, h with
  | [.str z], h => exact call_len_str pins s σ H _ us Q I r ⟨z, rfl, h.1, h.2⟩
  | [.ref p], h =>
    obtain ⟨ys, h1, q⟩ := h
    exact call_len_seq pins s σ H _ us Q I r ⟨p, ys, rfl, h1, q⟩
/-- int(n) of an int -/
def rInt1 : List V → Hp → VK → Prop := fun xs H Q => match xs with
  | [.int i] => Q (.int i) H
  | _ => False
theorem call_intU : CallR X (.type "int") rInt1 := by
  intro pins s σ H xs us Q I r h
  match xs, h with
  | [.int i], h => exact call_int1 pins s σ H _ us Q I r (.inl ⟨i, rfl, h⟩)
def rI1 (f : Int → V) : List V → Hp → VK → Prop := fun xs H Q => match xs with
  | [.int i] => Q (f i) H
  | _ => False
def rI2 (f : Int → Int → V) : List V → Hp → VK → Prop := fun xs H Q => match xs with
  | [.int i, .int j] => Q (f i j) H
  | _ => False
theorem call_absU : CallR X (.builtin "abs") (rI1 fun i => .int (if i < 0 then -i else i)) := by
  intro pins s σ H xs us Q I r h
  match xs, h with
  | [.int i], h => exact call_abs pins s σ H _ us Q I r ⟨i, rfl, h⟩
theorem call_maxU (hc : X.calm = true) : CallR X (.builtin "max") (rI2 fun i j => .int (if j > i then j else i)) := by
  intro pins s σ H xs us Q I r h
  match xs, h with
  | [.int i, .int j], h => exact call_max2 hc pins s σ H _ us Q I r ⟨i, j, rfl, h⟩
theorem call_minU (hc : X.calm = true) : CallR X (.builtin "min") (rI2 fun i j => .int (if j < i then j else i)) := by
  intro pins s σ H xs us Q I r h
  match xs, h with
  | [.int i, .int j], h => exact call_min2 hc pins s σ H _ us Q I r ⟨i, j, rfl, h⟩
end
section
variable {σ : L2.St} {H : Hp} {Q : VK} {K : PySem.W.Frag} {D' : Ends}
theorem e_var {i : Nat} : tVar i σ H Q = ∃ v, σ[i]? = some (some v) ∧ Q v H := rfl
theorem e_c {v : V} : tC v σ H Q = Q v H := rfl
theorem e_op {r : R2} {ta tb : TE} : tOp r ta tb σ H Q = ta σ H fun x H1 => tb σ H1 fun y H2 => r x y H2 Q := rfl
theorem e_un {r : V → Hp → VK → Prop} {ta : TE} : tUn r ta σ H Q = ta σ H fun x H1 => r x H1 Q := rfl
theorem e_nil {R : List V → Hp → Prop} : tNil σ H R = R [] H := rfl
theorem e_cons {ta : TE} {tr : TA} {R : List V → Hp → Prop} : tCons ta tr σ H R = ta σ H fun x H1 => tr σ H1 fun xs H2 => R (x :: xs) H2 := rfl
theorem e_cb {r : List V → Hp → VK → Prop} {t : TA} : tCB r t σ H Q = t σ H fun vs H1 => r vs H1 Q := rfl
theorem e_call {sp : Sp} {dvs : List V} {E : XK} {t : TA} : tCall sp dvs E t σ H Q = t σ H fun vs H1 => sp (vs ++ dvs) H1 Q E := rfl
theorem e_tup {t : TA} : tTup t σ H Q = t σ H fun xs H1 => xs.length ≤ sizeLine ∧ ∀ p, H1 p = none → Q (.ref p) (upd H1 p (.tup xs)) := rfl
theorem e_lst {t : TA} : tLst t σ H Q = t σ H fun xs H1 => xs.length ≤ sizeLine ∧ ∀ p, H1 p = none → Q (.ref p) (upd H1 p (.lst xs)) := rfl
theorem e_if {t : TT} {ta tb : TE} : tIf t ta tb σ H Q = t σ H fun c H1 => if c = true then ta σ H1 Q else tb σ H1 Q := rfl
theorem e_andV {ta tb : TE} : tAndV ta tb σ H Q = ta σ H fun x H1 => ∃ c, x = .bl c ∧ if c = true then tb σ H1 Q else Q (.bl false) H1 := rfl
theorem e_orV {ta tb : TE} : tOrV ta tb σ H Q = ta σ H fun x H1 => ∃ c, x = .bl c ∧ if c = true then Q (.bl true) H1 else tb σ H1 Q := rfl
theorem e_notV {ta : TE} : tNotV ta σ H Q = ta σ H fun x H1 => ∃ c, x = .bl c ∧ Q (.bl (!c)) H1 := rfl
theorem e_chain {r r' : R2} {ta tb tc : TE} : tChain r r' ta tb tc σ H Q = ta σ H fun x H1 => tb σ H1 fun y H2 => r x y H2 fun z H3 => ∃ k, z = .bl k ∧ (if k = true then tc σ H3 fun w' H4 => r' y w' H4 Q else Q (.bl false) H3) := rfl
theorem e_test {te : TE} {R : Bool → Hp → Prop} : tTest te σ H R = te σ H fun x H1 => ∃ b, x = .bl b ∧ R b H1 := rfl
theorem e_B {te : TE} {R : Bool → Hp → Prop} : tB te σ H R = te σ H fun x H1 => ∃ b, x = .bl b ∧ R b H1 := rfl
theorem e_and {t u : TT} {R : Bool → Hp → Prop} : tAnd t u σ H R = t σ H fun c H1 => if c = true then u σ H1 R else R false H1 := rfl
theorem e_or {t u : TT} {R : Bool → Hp → Prop} : tOr t u σ H R = t σ H fun c H1 => if c = true then R true H1 else u σ H1 R := rfl
theorem e_not {t : TT} {R : Bool → Hp → Prop} : tNot t σ H R = t σ H fun c H1 => R (!c) H1 := rfl
theorem e_asg {te : TE} {g : TG} : tAsg te g D' σ H = te σ H fun v H1 => g v σ H1 D'.nx := rfl
theorem e_name {i : Nat} {v : V} {R : L2.St → Hp → Prop} : gName i v σ H R = R (σ.set i (some v)) H := rfl
theorem e_seq {t u : TS} : tSeq t u D' σ H = t { D' with nx := u D' } σ H := rfl
theorem e_next : tNext D' σ H = D'.nx σ H := rfl
theorem e_ret {te : TE} : tRet te D' σ H = te σ H D'.rt := rfl
theorem e_ifS {t : TT} {u w : TS} : tIfS t u w D' σ H = t σ H fun c H1 => if c = true then u D' σ H1 else w D' σ H1 := rfl
theorem e_drop {te : TE} : tDrop te D' σ H = te σ H fun _ H1 => D'.nx σ H1 := rfl
theorem e_part {te : TE} {R : Option Int → Hp → Prop} : tPart te σ H R = te σ H fun v H1 => ∃ i, v = .int i ∧ R (some i) H1 := rfl
theorem e_noPart {R : Option Int → Hp → Prop} : tNoPart σ H R = R none H := rfl
theorem e_sl {r : V → Option Int → Option Int → Hp → VK → Prop} {te : TE} {tl th : TO} : tSl r te tl th σ H Q = te σ H fun x H1 => tl σ H1 fun lo H2 => th σ H2 fun hi H3 => r x lo hi H3 Q := rfl
theorem e_I0 {f : Int → Int → V} {i j : Int} : rI0 f (.int i) (.int j) H Q = Q (f i j) H := by
  apply propext
  constructor
  · rintro ⟨a, b, h1, h2, q⟩
    cases h1
    cases h2
    exact q
  · exact fun q => ⟨i, j, rfl, rfl, q⟩
theorem e_I {C : Int → Int → Prop} {f : Int → Int → V} {i j : Int} : rI C f (.int i) (.int j) H Q = (C i j ∧ Q (f i j) H) := by
  apply propext
  constructor
  · rintro ⟨a, b, h1, h2, q⟩
    cases h1
    cases h2
    exact q
  · exact fun q => ⟨i, j, rfl, rfl, q⟩
theorem e_exbl {b : Bool} {R : Bool → Prop} : (∃ c, V.bl b = V.bl c ∧ R c) = R b := by
  apply propext
  constructor
  · rintro ⟨c, h, r⟩
    cases h
    exact r
  · exact fun r => ⟨b, rfl, r⟩
theorem e_exint {b : Int} {R : Int → Prop} : (∃ c, V.int b = V.int c ∧ R c) = R b := by
  apply propext
  constructor
  · rintro ⟨c, h, r⟩
    cases h
    exact r
  · exact fun r => ⟨b, rfl, r⟩
theorem e_exstr {b : Str} {R : Str → Prop} : (∃ c, V.str b = V.str c ∧ R c) = R b := by
  apply propext
  constructor
  · rintro ⟨c, h, r⟩
    cases h
    exact r
  · exact fun r => ⟨b, rfl, r⟩
theorem e_exsome {b : V} {R : V → Prop} : (∃ c, (some (some b) : Option (Option V)) = some (some c) ∧ R c) = R b := by
  apply propext
  constructor
  · rintro ⟨c, h, r⟩
    cases h
    exact r
  · exact fun r => ⟨b, rfl, r⟩
theorem e_pair {i j : Nat} {ta : TA} : tPar i j ta D' σ H = ta σ H fun vs H1 => ∃ v w, vs = [v, w] ∧ D'.nx ((σ.set i (some v)).set j (some w)) H1 := rfl
theorem e_expair {v w : V} {R : V → V → Prop} : (∃ a b, [v, w] = [a, b] ∧ R a b) = R v w := by
  apply propext
  constructor
  · rintro ⟨a, b, h, r⟩
    cases h
    exact r
  · exact fun r => ⟨v, w, rfl, r⟩
end
end U
namespace U
open PySem PySem.Spec PyProof.Rows L2
section
variable {σ : L2.St} {H : Hp} {Q : VK} {K : PySem.W.Frag}
theorem e_m1 {r : V → List V → Hp → VK → Prop} {to te : TE} : tM1 r to te σ H Q = to σ H fun x H1 => (∃ a, x = .str a) ∧ te σ H1 fun y H2 => r x [y] H2 Q := rfl
theorem e_m0 {r : V → List V → Hp → VK → Prop} {to : TE} : tM0 r to σ H Q = to σ H fun x H1 => (∃ a, x = .str a) ∧ r x [] H1 Q := rfl
theorem e_bm {T : String} {r : V → List V → Hp → VK → Prop} {to : TE} {t : TA} : tBM K T r to t σ H Q = to σ H fun x H1 => tyV K T x H1 ∧ t σ H1 fun xs H2 => r x xs H2 Q := rfl
theorem e_bm0 {T : String} {r : V → List V → Hp → VK → Prop} {to : TE} : tBM0 K T r to σ H Q = to σ H fun x H1 => tyV K T x H1 ∧ r x [] H1 Q := rfl
theorem e_fld {to : TE} {f : Str} : tFld K to f σ H Q = to σ H fun x H1 => ∃ a C dx fs v, x = .ref a ∧ H1 a = some (.ins C dx fs) ∧ Cls K C ∧ NoAttr K C f ∧ fs.lookup f = some v ∧ Q v H1 := rfl
end
end U
namespace U
open PySem PySem.Spec PyProof.Rows L2
section
variable {X : Cx} {x : Str} {pos : Pos} {a : Addr}
/-- a built-in class, a class or def of the module, as a value -/
theorem pe_bt (n : String) (hg : Gl X x) (hm : X.mg x = none) (hv : bootBuiltins x = some (.type n)) (hn : x ≠ "__name__" := by decide) (hd : (x == ("__debug__" : Str)) = false := by decide) : PE X (.Name x pos) (tC (.ty n)) :=
  pe_bltn hg hm hv rfl hn hd
theorem pe_gref (hg : Gl X x) (hm : X.mg x = some (.ref a)) (hd : (x == ("__debug__" : Str)) = false := by decide) : PE X (.Name x pos) (tC (.ref a)) := pe_glob (v := .ref a) hg hm rfl hd
end
end U
namespace U
open PySem PySem.Spec PyProof.Rows L2
section
variable {prog : Program} {w : World} {A : Around} {E : Value → Shared → Prop} {s : Shared}
theorem hint_str {x : Str} {t : Tok} {Q : Bool → Shared → Prop} (q : Q false s) : wpAny (model prog w) A (Builtin.List.listLengthHint (.str x t)) Q E s := by
  unfold Builtin.List.listLengthHint
  have ty : s.TypeIs (.str x t) "str" := rfl
  refine wpAny_bind (wpAny_specialOf ty PySem.F.str_len ?_)
  wp_delta
  refine wpAny_bind (wpAny_isInstance (v := .str x t) (T := "str") (b := true) rfl (by rw [isSubtype_type]; kernel_rfl) ?_)
  show wpAny _ A (typeOf (Value.str x t) >>= _) _ _ _
  refine wpAny_bind (wpAny_typeOf ty ?_)
  exact wpAny_pure q
/-- the signs of a text are put behind an empty list at S -/
theorem ext_str {R : Result → Shared → Prop} (hh : A.handled = none) (x : Str) (t : Tok) (S : Addr) (res : Value) (c0 : Nat) (hS : s.heap.get? S = some { cls := .type "list", data := .seq #[] c0 }) (hn : x.cps.size ≤ sizeLine)
    (hR : ∀ h' tk acc c', (∀ b o, b ≠ S → s.heap.get? b = some o → h'.get? b = some o) → h'.get? S = some { cls := .type "list", dict := none, data := .seq acc c', slots := #[] } → ItemsOf (SignAt x) acc x.cps.size → R (.ok (.ret res)) { s with heap := h', toks := tk }) :
    wpAny (model prog w) A.in1 (Builtin.List.listExtendWith (.ref S) (.str x t) res)
      (fun fin s1 => match fin with | .done f => R (.ok f) s1 | .again c1 => c1.quiet = true ∧ codeAny (model prog w) A c1 R s1) (fun e s1 => R (.error e) s1) s := by
  have hlt := Heap.lt_size hS
  unfold Builtin.List.listExtendWith
  have ty : s.TypeIs (.str x t) "str" := rfl
  refine wpAny_bind (wpAny_typeOf ty ?_)
  have n1 : Builtin.List.listSameRef (.ref S) (.str x t) = false := rfl
  have n2 : (Value.type "str" == Value.type "list") = false := by decide
  have n3 : (Value.type "str" == Value.type "tuple") = false := by decide
  simp only [n1, n2, n3, Bool.or_false, Bool.false_eq_true, if_false]
  refine wpAny_bind (wpAny_pyIter_str fun o St W hst => ?_)
  refine wpAny_bind (wpAny_holding (hint_str ?_))
  rw [if_neg (by decide)]
  have hSf : S ∉ [s.heap.objs.size] := by
    intro hm
    exact Nat.ne_of_lt hlt (List.mem_singleton.mp hm)
  have hS1 := Heap.get?_push_of_some o hS
  refine wpAny_pure ⟨plainId_quiet PySem.F.plain_extend_loop _, ?_⟩
  refine codeAny_extend_loopS (W A.in1 hh).toS hn S hSf res x.cps.size 0 _ #[] c0 rfl (Nat.zero_le _) hst hS1 (ItemsOf.nil _) ?_
  intro s1 acc c' hm hS' hacc
  rw [Moved.eq_with hm]
  refine hR s1.heap s1.toks acc c' ?_ hS' hacc
  intro b ob hb e
  refine hm.heap b ob ?_ (Heap.get?_push_of_some _ e)
  intro hmem
  rcases List.mem_cons.mp hmem with z | hmem
  · exact hb z
  · exact Nat.ne_of_lt (Heap.lt_size e) (List.mem_singleton.mp hmem)
theorem init_str {R : Result → Shared → Prop} (hh : A.handled = none) (x : Str) (t : Tok) (S : Addr) (hS : s.heap.get? S = some { cls := .type "list", data := .seq #[] }) (hn : x.cps.size ≤ sizeLine)
    (hR : ∀ h' tk acc c', (∀ b o, b ≠ S → s.heap.get? b = some o → h'.get? b = some o) → h'.get? S = some { cls := .type "list", dict := none, data := .seq acc c', slots := #[] } → ItemsOf (SignAt x) acc x.cps.size → R (.ok (.ret .none)) { s with heap := h', toks := tk }) :
    wpAny (model prog w) A.in1 (Builtin.«list.__init__» ⟨[.ref S, .str x t], []⟩)
      (fun fin s1 => match fin with | .done f => R (.ok f) s1 | .again c1 => c1.quiet = true ∧ codeAny (model prog w) A c1 R s1) (fun e s1 => R (.error e) s1) s := by
  show wpAny _ _ (do
    let old ← Builtin.List.listItems (.ref S)
    Builtin.List.listUpdate (.ref S) (fun _ => #[])
    letGo old.toList.reverse
    Builtin.List.listExtendWith (.ref S) (.str x t) .none) _ _ s
  refine wpAny_bind ?_
  unfold Builtin.List.listItems
  refine wpAny_bind (wpAny_seqItems hS rfl (wpAny_pure ?_))
  show wpAny _ _ (do
    updateSeq S (fun _ => #[])
    letGo (#[] : Array Value).toList.reverse
    Builtin.List.listExtendWith (.ref S) (.str x t) .none) _ _ s
  refine wpAny_bind (wpAny_updateSeq hS rfl ?_)
  have hS2 := Heap.get?_update_self (Obj.mapSeq (fun _ => (#[] : Array Value))) hS rfl
  refine wpAny_bind (wpAny_letGo ?_)
  refine ext_str hh x t S .none _ hS2 hn ?_
  intro h' tk acc c' hk hS' hacc
  refine hR h' tk acc c' (fun b o hb e => hk b o hb ?_) hS' hacc
  exact (Heap.get?_update_other _ _ (Ne.symm hb)).trans e
theorem list_str {Q : Value → Shared → Prop} (hh : A.handled = none) (x : Str) (t : Tok) (hn : x.cps.size ≤ sizeLine)
    (hQ : ∀ h' tk acc c', (∀ b o, s.heap.get? b = some o → h'.get? b = some o) → h'.get? s.heap.objs.size = some { cls := .type "list", dict := none, data := .seq acc c', slots := #[] } → ItemsOf (SignAt x) acc x.cps.size → Q (.ref s.heap.objs.size) { s with heap := h', toks := tk }) :
    wpAny (model prog w) A (call (.type "list") [.str x t]) Q E s := by
  refine callType_codes (Q₁ := fun obj s1 => obj = .ref s.heap.objs.size ∧ s1 = { s with heap := s.heap.push { cls := .type "list", data := .seq #[] } }) PySem.F.called_list (PySem.F.typeCall_list_1 _) PySem.F.entry_list_init (code_list_new _ ⟨rfl, rfl⟩) ?_
  rintro obj s1 ⟨rfl, rfl⟩
  have hS : (s.heap.push { cls := .type "list", data := .seq #[] }).get? s.heap.objs.size = some { cls := .type "list", data := .seq #[] } := Heap.get?_push_size _ rfl
  refine ⟨⟨_, hS, rfl⟩, PySem.F.args_list_init_2 _ _, init_str (A := A.in1) hh x t _ hS hn ?_⟩
  intro h' tk acc c' hk hS' hacc
  refine ⟨rfl, ?_⟩
  refine hQ h' tk acc c' (fun b o e => hk b o (Nat.ne_of_lt (Heap.lt_size e)) (Heap.get?_push_of_some _ e)) hS' hacc
end
/-- the signs of a text, each a text -/
def signsV (z : Str) : List V := z.cps.toList.map fun c => V.str ⟨#[c]⟩
def rListU (K : PySem.W.Frag) : List V → Hp → VK → Prop := fun xs H Q => match xs with
  | [.ref p] => ∃ ys, (SqL K H p ys ∨ SqT K H p ys) ∧ ∀ l, H l = none → Q (.ref l) (upd H l (.lst ys))
  | [.str z] => z.length ≤ sizeLine ∧ ∀ l, H l = none → Q (.ref l) (upd H l (.lst (signsV z)))
  | _ => False
theorem call_listU {X : Cx} (hc : X.calm = true := by rfl) : CallR X (.type "list") (rListU X.K) := by
  intro pins s σ H xs us Q I r h
  match xs, h with
  | [.ref p], h =>
    obtain ⟨ys, h1, q⟩ := h
    exact call_list_of pins s σ H _ us Q I r ⟨p, ys, rfl, h1, q⟩
  | [.str z], h =>
    obtain ⟨hz, q⟩ := h
    obtain ⟨u, rfl, t, rfl⟩ := vals1 r
    refine list_str (I.ok.hd hc) z t hz ?_
    intro h' tk acc c' hk hS hacc
    have hnew : H s.heap.objs.size = none := I.hok.fresh (Nat.le_refl _)
    have ob : ObjOk X.prog X.w (upd H s.heap.objs.size (.lst (signsV z))) h' s.heap.objs.size (.lst (signsV z)) := by
      refine ⟨?_, acc.toList, c', ?_, by rw [Array.toArray_toList]; exact hS⟩
      · unfold signsV
        rw [List.length_map]
        exact hz
      · refine vals_of_at ?_ ?_
        · unfold signsV
          rw [List.length_map, Array.length_toList, Array.length_toList, hacc.1]
        · intro j v u h1 h2
          rw [Array.getElem?_toList] at h2
          obtain ⟨c, tk2, hc2, rfl⟩ := hacc.2 j u h2
          unfold signsV at h1
          rw [List.getElem?_map, Array.getElem?_toList, hc2] at h1
          cases h1
          exact ⟨_, rfl⟩
    exact ⟨.ref s.heap.objs.size, _, I.laid hk (Nat.le_refl _) ob, rfl, q _ hnew⟩
section
variable {K : PySem.W.Frag} {x qual : Str} {st : Stmt} {f : Addr} {fd : FuncData} {ps ks : List Str} {n : Nat} {g : List Value → List Value} {gV : List V → List V}
theorem kbn_of (F : L2.Fun K x qual st f fd) (rel : ∀ {zs : List V} {ws : List Value}, Vals zs ws → Vals (gV zs) (g ws))
    (h : ∀ (kV doc pm : Value) (an : Option Addr) (cdv ct : Value) (us ws : List Value), us.length = n → ws.length = ks.length →
      bindArgs (PySem.W.fnOf x qual (L2.defArgs st) (L2.defBody st) (L2.defScope st) .none kV doc pm an cdv ct) ⟨us, ks.zip ws⟩ = pure (ps.zip (us ++ g ws))) :
    KBn K fd ps n ks (fun us ws => us ++ g ws) (fun vs zs => vs ++ gV zs) := by
  obtain ⟨oc, od, kV, doc, pm, an, cdv, ct, osl, rfl, lk, hcd⟩ := F.ex
  exact ⟨fun s us ws _ h1 h2 => .of_eq (h kV doc pm an cdv ct us ws h1 h2), fun r rz => r.append (rel rz)⟩
end
def pk1_0 {α : Type} : List α → List α
  | [a, b] => [b, a]
  | l => l
def pk3_2_1_0 {α : Type} : List α → List α
  | [a, b, c, d] => [d, c, b, a]
  | l => l
def pk2_1_0 {α : Type} : List α → List α
  | [a, b, c] => [c, b, a]
  | l => l
def pk0 {α : Type} : List α → List α := fun l => l
def pk0_1 {α : Type} : List α → List α := fun l => l
theorem rel2_1_0 {zs : List V} {ws : List Value} (r : Vals zs ws) : Vals (pk2_1_0 zs) (pk2_1_0 ws) := by
  match zs, ws, r with
  | [], _, .nil => exact .nil
  | [_], _, .cons a .nil => exact .cons a .nil
  | [_, _], _, .cons a (.cons b .nil) => exact .cons a (.cons b .nil)
  | [_, _, _], _, .cons a (.cons b (.cons c .nil)) => exact .cons c (.cons b (.cons a .nil))
  | _ :: _ :: _ :: _ :: _, _, .cons a (.cons b (.cons c (.cons d t))) => exact .cons a (.cons b (.cons c (.cons d t)))
end U
namespace U
open PySem PySem.Spec PyProof.Rows L2
/-- J walks n items, wherever what stood in H0 (but S) still stands; it: the item, the heap ahead of the turn and behind the draw -/
structure Src (S : Addr → Prop) (J : It) (H0 : Hp) (n : Nat) (it : Nat → V → Hp → Hp → Prop) : Prop where
  stop : ∀ H', Ext S H0 H' → J.stop n H'
  go : ∀ i H', i < n → Ext S H0 H' → J.go i H'
  yld : ∀ i H' x H2, i < n → Ext S H0 H' → J.yld i H' x H2 → it i x H' H2
section
variable {K : PySem.W.Frag} {S : Addr → Prop} {H0 : Hp} {a : Addr} {xs : List V}
theorem src_list (h : H0 a = some (.lst xs)) (n : ¬ S a) : Src S (Itl K a) H0 xs.length (fun i x H' H2 => H2 = H' ∧ xs[i]? = some x) := by
  refine ⟨fun H' e => ⟨xs, SqL.of (e _ _ n h), Nat.le_refl _⟩, fun i H' hi e => ⟨xs, xs[i], SqL.of (e _ _ n h), by simp [hi]⟩, fun i H' x H2 hi e y => ?_⟩
  obtain ⟨q, y⟩ := y
  exact ⟨q, y xs (SqL.of (e _ _ n h))⟩
theorem src_rng (lo : Int) (n : Nat) : Src S (Itr lo n) H0 n (fun i x H' H2 => H2 = H' ∧ x = .int (lo + (i : Nat))) :=
  ⟨fun _ _ => Nat.le_refl _, fun _ _ hi _ => hi, fun _ _ _ _ _ _ y => y⟩
end
/-- a comprehension: I says which data may have been gathered behind i turns -/
theorem lc_core {J : It} {H1 : Hp} {n : Nat} {it : Nat → V → Hp → Hp → Prop} {g : TG} {tt : TT} {te : TE} {vs : List Nat} {σ : L2.St} {Q : VK} {D0 : Addr} (hD : H1 D0 = none) (src : Src (fun a => a = D0) J H1 n it) (hn : n ≤ 16777216)
    (I : Nat → List D → Prop) (i0 : I 0 [])
    (step : ∀ i ds H', i < n → I i ds → Ext (fun a => a = D0) H1 H' → ∀ x H2, it i x H' H2 → ∀ (Ky : VK) (Kn : Hp → Prop), (∀ y H5 d, Same H' H5 → Dt N0 H5 y d → D.flat d = true → I (i + 1) (ds ++ [d]) → Ky y H5) → (∀ H5, Same H' H5 → I (i + 1) ds → Kn H5) →
      g x (wipe σ vs) H2 fun σ2 H3 => wipe σ2 vs = wipe σ vs ∧ tt σ2 H3 fun b H4 => if b = true then te σ2 H4 Ky else Kn H4)
    (fin : ∀ H' ds, I n ds → ds.length ≤ n → Same H1 H' → Dt N0 H' (.ref D0) (.lst ds) → Q (.ref D0) H') :
    ∃ W : Nat → Nat → Hp → Prop, (∃ m, W 0 m (upd H1 D0 (.lst []))) ∧ ∀ i m H, W i m H →
      (J.stop i H ∧ Q (.ref D0) H) ∨ (J.go i H ∧ ∃ Nx : Hp → Prop, (∀ H', Nx H' → ∃ m', m' < m ∧ W (i + 1) m' H') ∧ ∀ x H', J.yld i H x H' → g x (wipe σ vs) H' fun σ2 H2 => wipe σ2 vs = wipe σ vs ∧ tt σ2 H2 fun b H3 =>
        if b = true then te σ2 H3 fun y H4 => ∃ acc, H4 D0 = some (.lst acc) ∧ acc.length < sizeLine ∧ Nx (upd H4 D0 (.lst (acc ++ [y]))) else Nx H3) := by
  refine ⟨fun i m H => m = n - i ∧ i ≤ n ∧ Ext (fun a => a = D0) H1 H ∧ ∃ ws ds, H D0 = some (.lst ws) ∧ DtA (fun a => a = D0) H ws ds ∧ I i ds ∧ ds.length ≤ i, ⟨n, rfl, Nat.zero_le _, ?_, [], [], upd_same, .nil, i0, Nat.le_refl _⟩, ?_⟩
  · exact Ext.mut (Ext.refl _) rfl
  · rintro i m H ⟨rfl, hi, hE, ws, ds, hL, hA, hI, hlen⟩
    by_cases hlt : i < n
    · refine .inr ⟨src.go i H hlt hE, fun H' => ∃ ws ds, Ext (fun a => a = D0) H1 H' ∧ H' D0 = some (.lst ws) ∧ DtA (fun a => a = D0) H' ws ds ∧ I (i + 1) ds ∧ ds.length ≤ i + 1, ?_, ?_⟩
      · rintro H' ⟨ws', ds', hE', hL', hA', hI', hl'⟩
        exact ⟨n - (i + 1), by omega, rfl, hlt, hE', ws', ds', hL', hA', hI', hl'⟩
      · intro x H2 hy
        refine step i ds H hlt hI hE x H2 (src.yld i H x H2 hlt hE hy) _ _ ?_ ?_
        · intro y H5 d hS hd0 hfl hI'
          have hd := Dt.nl (hS _ _ hL) d hfl hd0
          refine ⟨ws, hS _ _ hL, ?_, ws ++ [y], ds ++ [d], ?_, upd_same, ?_, hI', by rw [List.length_append, List.length_singleton]; omega⟩
          · rw [hA.length]
            exact Nat.lt_of_le_of_lt hlen (Nat.lt_of_lt_of_le hlt (by rw [sizeLine_eq]; exact hn))
          · exact Ext.mut (hE.trans (Ext.of hS)) rfl
          · have z : DtA (fun a => a = D0) H5 (ws ++ [y]) (ds ++ [d]) := (hA.sm hS).snoc hd
            exact z.go (Ext.mut (Ext.refl _) rfl)
        · intro H5 hS hI'
          exact ⟨ws, ds, hE.trans (Ext.of hS), hS _ _ hL, hA.sm hS, hI', by omega⟩
    · have e : i = n := by omega
      subst e
      refine .inl ⟨src.stop H hE, fin H ds hI hlen (hE.same hD) ?_⟩
      exact .lst (fun z => z) hL hA.n0
/-- the step of a comprehension -/
abbrev LcStep (H1 : Hp) (D0 : Addr) (n : Nat) (it : Nat → V → Hp → Hp → Prop) (I : Nat → List D → Prop) (g : TG) (tt : TT) (te : TE) (vs : List Nat) (σ : L2.St) : Prop :=
  ∀ i ds H', i < n → I i ds → Ext (fun a => a = D0) H1 H' → ∀ x H2, it i x H' H2 → ∀ (Ky : VK) (Kn : Hp → Prop), (∀ y H5 d, Same H' H5 → Dt N0 H5 y d → D.flat d = true → I (i + 1) (ds ++ [d]) → Ky y H5) → (∀ H5, Same H' H5 → I (i + 1) ds → Kn H5) →
      g x (wipe σ vs) H2 fun σ2 H3 => wipe σ2 vs = wipe σ vs ∧ tt σ2 H3 fun b H4 => if b = true then te σ2 H4 Ky else Kn H4
abbrev LcFin (H1 : Hp) (D0 : Addr) (n : Nat) (I : Nat → List D → Prop) (Q : VK) : Prop := ∀ H' ds, I n ds → ds.length ≤ n → Same H1 H' → Dt N0 H' (.ref D0) (.lst ds) → Q (.ref D0) H'
/-- a comprehension that walks J -/
def LcOn (J : It) (g : TG) (tt : TT) (te : TE) (vs : List Nat) (σ : L2.St) (Q : VK) (H1 : Hp) : Prop := ∀ D, H1 D = none → ∃ W : Nat → Nat → Hp → Prop, (∃ m, W 0 m (upd H1 D (.lst []))) ∧ ∀ i m H, W i m H →
  (J.stop i H ∧ Q (.ref D) H) ∨ (J.go i H ∧ ∃ Nx : Hp → Prop, (∀ H', Nx H' → ∃ m', m' < m ∧ W (i + 1) m' H') ∧ ∀ x H', J.yld i H x H' → g x (wipe σ vs) H' fun σ2 H2 => wipe σ2 vs = wipe σ vs ∧ tt σ2 H2 fun b H3 =>
    if b = true then te σ2 H3 fun y H4 => ∃ acc, H4 D = some (.lst acc) ∧ acc.length < sizeLine ∧ Nx (upd H4 D (.lst (acc ++ [y]))) else Nx H3)
def rLcL (K : PySem.W.Frag) (g : TG) (tt : TT) (te : TE) (vs : List Nat) (σ : L2.St) (Q : VK) (x : V) (H1 : Hp) : Prop := ∃ a, x = .ref a ∧ (∃ xs, SqL K H1 a xs) ∧ LcOn (Itl K a) g tt te vs σ Q H1
def rLcT (K : PySem.W.Frag) (g : TG) (tt : TT) (te : TE) (vs : List Nat) (σ : L2.St) (Q : VK) (x : V) (H1 : Hp) : Prop := ∃ a, x = .ref a ∧ (∃ xs, SqT K H1 a xs) ∧ LcOn (Itt K a) g tt te vs σ Q H1
def rLcS (g : TG) (tt : TT) (te : TE) (vs : List Nat) (σ : L2.St) (Q : VK) (x : V) (H1 : Hp) : Prop := ∃ z, x = .str z ∧ LcOn (Its z) g tt te vs σ Q H1
def rLcR (g : TG) (tt : TT) (te : TE) (vs : List Nat) (σ : L2.St) (Q : VK) (x : List V) (H1 : Hp) : Prop := ∃ j : Int, x = [.int j] ∧ -(2 ^ 62) ≤ j ∧ j < 2 ^ 62 ∧ LcOn (Itr 0 j.toNat) g tt te vs σ Q H1
def rLcR2 (g : TG) (tt : TT) (te : TE) (vs : List Nat) (σ : L2.St) (Q : VK) (x : List V) (H1 : Hp) : Prop := ∃ i j : Int, x = [.int i, .int j] ∧ (-(2 ^ 62) ≤ i ∧ i < 2 ^ 62 ∧ -(2 ^ 62) ≤ j ∧ j < 2 ^ 62) ∧ LcOn (Itr i (j - i).toNat) g tt te vs σ Q H1
section
variable {K : PySem.W.Frag} {H H1 : Hp} {a : Addr} {xs : List V} {g : TG} {tt : TT} {te tl : TE} {vs : List Nat} {σ : L2.St} {Q : VK} {ta : TA}
theorem e_lcL : tLc (iList K tl) g tt te vs σ H Q = tl σ H fun x H1 => rLcL K g tt te vs σ Q x H1 := rfl
theorem e_lcT : tLc (iTup K tl) g tt te vs σ H Q = tl σ H fun x H1 => rLcT K g tt te vs σ Q x H1 := rfl
theorem e_lcS : tLc (iStr tl) g tt te vs σ H Q = tl σ H fun x H1 => rLcS g tt te vs σ Q x H1 := rfl
theorem e_lcR : tLc (iRng1 ta) g tt te vs σ H Q = ta σ H fun x H1 => rLcR g tt te vs σ Q x H1 := rfl
theorem e_lcR2 : tLc (iRng2 ta) g tt te vs σ H Q = ta σ H fun x H1 => rLcR2 g tt te vs σ Q x H1 := rfl
theorem lcR {n : Int} (hn : n ≤ 16777216) (hn0 : -16777216 ≤ n) (I : Nat → List D → Prop) (i0 : I 0 [])
    (step : ∀ D0, H1 D0 = none → LcStep H1 D0 n.toNat (fun i x H' H2 => H2 = H' ∧ x = .int (i : Nat)) I g tt te vs σ) (fin : ∀ D0, H1 D0 = none → LcFin H1 D0 n.toNat I Q) : rLcR g tt te vs σ Q [.int n] H1 := by
  refine ⟨n, rfl, by omega, by omega, fun D0 hD => lc_core hD (src_rng 0 n.toNat) (by omega) I i0 ?_ (fin D0 hD)⟩
  rintro i ds H' hi hI hE x H2 ⟨e1, e2⟩
  exact step D0 hD i ds H' hi hI hE x H2 ⟨e1, by rw [e2, Int.zero_add]⟩
end
theorem for_core {J : It} {H1 : Hp} {n : Nat} {it : Nat → V → Hp → Hp → Prop} {S : Addr → Prop} {g : TG} {tb : TS} {σ : L2.St} {D0 : Ends} (src : Src S J H1 n it)
    (I : Nat → L2.St → Hp → Prop) (i0 : I 0 σ H1) (stay : ∀ i σ' H', I i σ' H' → Ext S H1 H')
    (step : ∀ i σ' H', i < n → I i σ' H' → ∀ x H2, it i x H' H2 → g x σ' H2 fun σ2 H3 => tb { D0 with nx := I (i + 1), ct := I (i + 1), bk := D0.nx } σ2 H3)
    (fin : ∀ σ' H', I n σ' H' → D0.nx σ' H') :
    ∃ W : Nat → Nat → L2.St → Hp → Prop, (∃ m, W 0 m σ H1) ∧ ∀ i m σ H, W i m σ H →
      (J.stop i H ∧ D0.nx σ H) ∨ (J.go i H ∧ ∃ N : L2.St → Hp → Prop, (∀ σ' H', N σ' H' → ∃ m', m' < m ∧ W (i + 1) m' σ' H') ∧ ∀ x H', J.yld i H x H' → g x σ H' fun σ2 H2 => tb { D0 with nx := N, ct := N, bk := D0.nx } σ2 H2) := by
  refine ⟨fun i m σ' H' => m = n - i ∧ i ≤ n ∧ I i σ' H', ⟨n, rfl, Nat.zero_le _, i0⟩, ?_⟩
  rintro i m σ' H' ⟨rfl, hi, hI⟩
  by_cases hlt : i < n
  · refine .inr ⟨src.go i H' hlt (stay _ _ _ hI), I (i + 1), fun σ2 H2 q => ⟨n - (i + 1), by omega, rfl, hlt, q⟩, fun x H2 y => ?_⟩
    exact step i σ' H' hlt hI x H2 (src.yld i H' x H2 hlt (stay _ _ _ hI) y)
  · have e : i = n := by omega
    subst e
    exact .inl ⟨src.stop H' (stay _ _ _ hI), fin σ' H' hI⟩
/-- a loop that walks J -/
def ForOn (J : It) (g : TG) (tb : TS) (D0 : Ends) (σ : L2.St) (H1 : Hp) : Prop := ∃ W : Nat → Nat → L2.St → Hp → Prop, (∃ m, W 0 m σ H1) ∧ ∀ i m σ H, W i m σ H →
  (J.stop i H ∧ D0.nx σ H) ∨ (J.go i H ∧ ∃ N : L2.St → Hp → Prop, (∀ σ' H', N σ' H' → ∃ m', m' < m ∧ W (i + 1) m' σ' H') ∧ ∀ x H', J.yld i H x H' → g x σ H' fun σ2 H2 => tb { D0 with nx := N, ct := N, bk := D0.nx } σ2 H2)
def rForL (K : PySem.W.Frag) (g : TG) (tb : TS) (D0 : Ends) (σ : L2.St) (x : V) (H1 : Hp) : Prop := ∃ a, x = .ref a ∧ (∃ xs, SqL K H1 a xs) ∧ ForOn (Itl K a) g tb D0 σ H1
def rForT (K : PySem.W.Frag) (g : TG) (tb : TS) (D0 : Ends) (σ : L2.St) (x : V) (H1 : Hp) : Prop := ∃ a, x = .ref a ∧ (∃ xs, SqT K H1 a xs) ∧ ForOn (Itt K a) g tb D0 σ H1
def rForR (g : TG) (tb : TS) (D0 : Ends) (σ : L2.St) (x : List V) (H1 : Hp) : Prop := ∃ j : Int, x = [.int j] ∧ -(2 ^ 62) ≤ j ∧ j < 2 ^ 62 ∧ ForOn (Itr 0 j.toNat) g tb D0 σ H1
def rForR2 (g : TG) (tb : TS) (D0 : Ends) (σ : L2.St) (x : List V) (H1 : Hp) : Prop := ∃ i j : Int, x = [.int i, .int j] ∧ (-(2 ^ 62) ≤ i ∧ i < 2 ^ 62 ∧ -(2 ^ 62) ≤ j ∧ j < 2 ^ 62) ∧ ForOn (Itr i (j - i).toNat) g tb D0 σ H1
section
variable {K : PySem.W.Frag} {S : Addr → Prop} {H H1 : Hp} {a : Addr} {xs : List V} {g : TG} {tb : TS} {tl : TE} {σ : L2.St} {D0 : Ends} {ta : TA}
theorem e_forL : tFor (iList K tl) g tb D0 σ H = tl σ H fun x H1 => rForL K g tb D0 σ x H1 := rfl
theorem e_forT : tFor (iTup K tl) g tb D0 σ H = tl σ H fun x H1 => rForT K g tb D0 σ x H1 := rfl
theorem e_forR : tFor (iRng1 ta) g tb D0 σ H = ta σ H fun x H1 => rForR g tb D0 σ x H1 := rfl
theorem e_forR2 : tFor (iRng2 ta) g tb D0 σ H = ta σ H fun x H1 => rForR2 g tb D0 σ x H1 := rfl
theorem forL (h : H1 a = some (.lst xs)) (hS : ¬ S a) (I : Nat → L2.St → Hp → Prop) (i0 : I 0 σ H1) (stay : ∀ i σ' H', I i σ' H' → Ext S H1 H')
    (step : ∀ i x σ' H', xs[i]? = some x → I i σ' H' → g x σ' H' fun σ2 H3 => tb { D0 with nx := I (i + 1), ct := I (i + 1), bk := D0.nx } σ2 H3) (fin : ∀ σ' H', I xs.length σ' H' → D0.nx σ' H') : rForL K g tb D0 σ (.ref a) H1 :=
  ⟨a, rfl, ⟨xs, SqL.of h⟩, for_core (src_list h hS) I i0 stay (fun i σ' H' _ hI x H2 y => by obtain ⟨rfl, y⟩ := y; exact step i x σ' _ y hI) fin⟩
end
end U
namespace U
open PySem PySem.Spec PyProof.Rows L2
/-- the text of one sign; of codes -/
def one (c : Nat) : Str := ⟨#[c]⟩
def ofL (l : List Nat) : Str := ⟨l.toArray⟩
def cd (z : Str) : List Nat := z.cps.toList
theorem cd_ofL (l : List Nat) : cd (ofL l) = l := rfl
theorem cd_len (z : Str) : (cd z).length = z.length := by
  unfold cd
  rw [Array.length_toList]
  rfl
theorem cd_size (z : Str) : z.cps.size = (cd z).length := by
  unfold cd
  rw [Array.length_toList]
def sgn (c : Nat) : D := .str (one c)
def SIGNS : Str := PySem.Str.ofString ".0123456789abcdefghijklmnopqrstuvwxyz~"
def signs : List Nat := cd SIGNS
def isSign (c : Nat) : Bool := decide (c ∈ signs)
/-- a text of at most n signs -/
def okText (n : Nat) (z : Str) : Bool := decide (z.length ≤ n) && (cd z).all isSign
theorem okText_iff {n : Nat} {z : Str} : okText n z = true ↔ z.length ≤ n ∧ ∀ c ∈ cd z, c ∈ signs := by
  unfold okText isSign
  rw [Bool.and_eq_true, List.all_eq_true]
  simp
structure Sh where
  limit : Nat
  head : Nat
  tail : Nat
  mark : Str
def Sh.ok (s : Sh) : Prop := s.limit ≤ 40 ∧ s.head ≤ 40 ∧ s.tail ≤ 40 ∧ okText 3 s.mark = true
/-- what a shortener leaves of a list; f: how a sign of the mark stands there -/
def cutP {α : Type} (f : Nat → α) (s : Sh) (xs : List α) : List α :=
  if xs.length ≤ s.limit then xs else xs.take s.head ++ (cd s.mark).map f ++ xs.drop (xs.length - s.tail)
def cutR {α : Type} (f : Nat → α) (row : List Sh) (xs : List α) : List α := row.foldl (fun ys s => cutP f s ys) xs
theorem cutR_cons {α : Type} (f : Nat → α) (s : Sh) (row : List Sh) (xs : List α) : cutR f (s :: row) xs = cutR f row (cutP f s xs) := rfl
theorem cutR_snoc {α : Type} (f : Nat → α) (s : Sh) (row : List Sh) (xs : List α) : cutR f (row ++ [s]) xs = cutP f s (cutR f row xs) := by
  unfold cutR
  rw [List.foldl_append]
  rfl
theorem cutP_map {α β : Type} (f : Nat → α) (g : α → β) (s : Sh) (xs : List α) : cutP (fun c => g (f c)) s (xs.map g) = (cutP f s xs).map g := by
  unfold cutP
  rw [List.length_map]
  split
  · rfl
  · rw [List.map_append, List.map_append, List.map_take, List.map_drop, List.map_map]
    rfl
theorem cutR_map {α β : Type} (f : Nat → α) (g : α → β) : ∀ (row : List Sh) (xs : List α), cutR (fun c => g (f c)) row (xs.map g) = (cutR f row xs).map g
  | [], _ => rfl
  | s :: row, xs => by
    rw [cutR_cons, cutR_cons, cutP_map, cutR_map f g row]
/-- what a row shows of a text -/
def showC (row : List Sh) (l : List Nat) : List Nat := cutR id row l
def showS (row : List Sh) (z : Str) : Str := ofL (showC row (cd z))
theorem cutR_sgn (row : List Sh) (l : List Nat) : cutR sgn row (l.map sgn) = (showC row l).map sgn := cutR_map id sgn row l
/-- no more than the limit, or than head, mark and tail together -/
theorem cutP_le {α : Type} (f : Nat → α) {s : Sh} (h : s.ok) (xs : List α) : (cutP f s xs).length ≤ 83 ∨ (cutP f s xs).length ≤ 40 := by
  obtain ⟨h1, h2, h3, h4⟩ := h
  have h5 := (okText_iff.mp h4).1
  left
  unfold cutP
  split
  · omega
  · rw [List.length_append, List.length_append, List.length_map, cd_len, List.length_take, List.length_drop]
    omega
theorem cutP_le83 {α : Type} (f : Nat → α) {s : Sh} (h : s.ok) (xs : List α) : (cutP f s xs).length ≤ 83 := by
  rcases cutP_le f h xs with z | z <;> omega
theorem cutR_le {α : Type} (f : Nat → α) : ∀ {row : List Sh} (_ : ∀ s ∈ row, s.ok) (xs : List α) {n : Nat}, xs.length ≤ n → 83 ≤ n → (cutR f row xs).length ≤ n
  | [], _, xs, n, h, _ => h
  | s :: row, hr, xs, n, _, h2 => by
    rw [cutR_cons]
    exact cutR_le f (fun t ht => hr t (List.mem_cons_of_mem _ ht)) _ (Nat.le_trans (cutP_le83 f (hr s List.mem_cons_self) xs) h2) h2
def toldD (s : Sh) : D := .tup [.int s.limit, .int s.head, .int s.tail, .str s.mark]
def shNs : List Str := ["limit", "head", "tail", "mark", "told"]
def shD (C : Addr) (s : Sh) : D := .ins C shNs [.int s.limit, .int s.head, .int s.tail, .str s.mark, toldD s]
def rowD (C : Addr) (row : List Sh) : D := .tup (row.map (shD C))
def toldsD (row : List Sh) : D := .lst (row.map toldD)
theorem dt_signs {S : Addr → Prop} {H : Hp} : ∀ l : List Nat, DtA S H (l.map fun c => V.str (one c)) (l.map sgn)
  | [] => .nil
  | c :: l => .cons (.str _) (dt_signs l)
theorem dt_signsV {S : Addr → Prop} {H : Hp} (z : Str) : DtA S H (signsV z) ((cd z).map sgn) := dt_signs (cd z)
/-- a list at an address, a tuple -/
theorem dt_lst {S : Addr → Prop} {H : Hp} {v : V} {ds : List D} (h : Dt S H v (.lst ds)) : ∃ a xs, v = .ref a ∧ ¬ S a ∧ H a = some (.lst xs) ∧ DtA S H xs ds := by
  cases h with
  | lst n ha hs => exact ⟨_, _, rfl, n, ha, hs⟩
theorem join_one1 (l : List Nat) : Txt.join (PySem.Str.ofString "") (l.map one) = ofL l := by
  have e := SX.join_S [] (l.map fun c => [c])
  rw [List.map_map] at e
  have e1 : SX.S [] = PySem.Str.ofString "" := rfl
  have e2 : (SX.S ∘ fun c => [c]) = one := rfl
  rw [e1, e2] at e
  rw [e]
  have h : ∀ l : List Nat, TL.joinL [] (l.map fun c => [c]) = l := by
    intro l
    induction l with
    | nil => rfl
    | cons c r ih =>
      cases r with
      | nil => rfl
      | cons d t =>
        show [c] ++ [] ++ TL.joinL [] ((d :: t).map fun c => [c]) = c :: d :: t
        rw [ih]
        rfl
  rw [h]
  rfl
end U
namespace U
open PySem PySem.Spec PyProof.Rows L2 StX
section
variable {X : Cx} {K : PySem.W.Frag} {e o a b : Expr} {te to : TE} {tg : Expr} {ta : TA}
theorem op_inK (h : X.K = K) : OpR X (compareOp .In) (rInU K) := by subst h; exact op_inU
theorem ix_K (h : X.K = K) : IxR X (rIxU K) := by subst h; exact ix_U
theorem sl_K (h : X.K = K) : SlR X (rSlU K) := by subst h; exact sl_U
theorem call_lenK (h : X.K = K) : CallR X (.builtin "len") (rLenU K) := by subst h; exact call_lenU
theorem call_listK (h : X.K = K) (hc : X.calm = true) : CallR X (.type "list") (rListU K) := by subst h; exact call_listU hc
theorem call_isiK (h : X.K = K) : CallR X (.builtin "isinstance") (rIsi K) := by subst h; exact call_isi
theorem cr_allK (h : X.K = K) (hc : X.calm = true) : CallR X (.builtin "all") (rAll K) := by subst h; exact cr_all hc
theorem call_reprK (h : X.K = K) (hg : X.A.guards = some []) (hu : X.A.units + 64 < cLine) : CallR X (.builtin "repr") (rRepr K) := by subst h; exact call_repr hg hu
theorem pe_fldK (h : X.K = K) {f : Str} {pos : Pos} (he : PE X e te) (hb : attributeBase e f X.env (eval e X.env) = eval e X.env := by rfl) : PE X (.Attribute e f pos) (tFld K te f) := by subst h; exact pe_fld he hb
theorem pi_listK (h : X.K = K) (he : PE X e te) : PI X tg e (iList K te) := by subst h; exact pi_list he
theorem pi_tupK (h : X.K = K) (he : PE X e te) : PI X tg e (iTup K te) := by subst h; exact pi_tup he
theorem pa_starK (h : X.K = K) {es : List Expr} {t : TA} {p : Pos} (he : PE X e te) (hr : PA X es t) (hs : starEach (.Starred e p :: es) X.env = (true, eval e X.env) :: starEach es X.env := by rfl) : PA X (.Starred e p :: es) (tStar K te t) := by subst h; exact pa_star he hr hs
/-- '..'.join(xs) -/
def rJoin (K : PySem.W.Frag) : V → List V → Hp → VK → Prop := fun x xs H Q => ∃ a p, ∃ ys : List Str, x = .str a ∧ xs = [.ref p] ∧ (SqL K H p (ys.map V.str) ∨ SqT K H p (ys.map V.str)) ∧ (ys.map (·.length)).sum + ys.length * a.length ≤ 16777216 ∧ Q (.str (Txt.join a ys)) H
theorem pe_joinK (h : X.K = K) {apos pos : Pos} (ho : PE X o to) (he : PE X e te) (hs : starEach [e] X.env = [(false, eval e X.env)] := by rfl) (hbase : attributeBase o "join" X.env (eval o X.env) = eval o X.env := by rfl) (hline : (apos.endLine == pos.line) = true := by rfl) :
    PE X (.Call (.Attribute o "join" apos) [e] [] pos) (tM1 (rJoin K) to te) := by subst h; exact pe_join ho he hs hbase hline
/-- tuple(xs) -/
theorem pe_tupOfK (h : X.K = K) {p pos : Pos} (hg : Gl X "tuple") (hm : X.mg "tuple" = none) (he : PE X e te) (na : starEach [e] X.env = (false, eval e X.env) :: starEach [] X.env := by rfl) : PE X (.Call (.Name "tuple" p) [e] [] pos) (tThen te (kTup K)) := by
  subst h
  exact pe_tupleOf hg hm he na
theorem e_then {σ : L2.St} {H : Hp} {Q : VK} {k : V → Hp → VK → Prop} : tThen te k σ H Q = te σ H fun x H1 => k x H1 Q := rfl
theorem e_star {σ : L2.St} {H : Hp} {Q : List V → Hp → Prop} {t : TA} : tStar K te t σ H Q = te σ H fun x H1 => ∃ p xs, x = V.ref p ∧ (SqT K H1 p xs ∨ SqL K H1 p xs) ∧ t σ H1 fun ys H2 => Q (xs ++ ys) H2 := rfl
end
end U
namespace U
open PySem PySem.Spec PyProof.Rows L2
theorem e_yes {σ : L2.St} {H : Hp} {R : Bool → Hp → Prop} : tYes σ H R = R true H := rfl
end U
namespace U
theorem take_snoc {α : Type} {l : List α} {i : Nat} {c : α} (h : l[i]? = some c) : l.take (i + 1) = l.take i ++ [c] := by
  rw [List.take_add_one, h]
  rfl
theorem cd_get {z : PySem.Str} {i c : Nat} (h : z.cps[i]? = some c) : (cd z)[i]? = some c := by
  unfold cd
  rw [Array.getElem?_toList]
  exact h
end U
namespace U
open PySem PySem.Spec PyProof.Rows L2
theorem e_sfld {σ : L2.St} {H : Hp} {D0 : Ends} {K : PySem.W.Frag} {ta tv : TE} {f : Str} : sFld K ta tv f D0 σ H = tv σ H fun y H1 => ta σ H1 fun x H2 => ∃ a C dx fs, x = .ref a ∧ H2 a = some (.ins C dx fs) ∧ Cls K C ∧ NoAttr K C f ∧ fs.length < 1000 ∧ D0.nx σ (upd H2 a (.ins C dx (putF f y fs))) := rfl
end U
namespace U
open PySem PySem.Spec PyProof.Rows L2
section
variable {σ : L2.St} {H : Hp} {R : L2.St → Hp → Prop} {K : PySem.W.Frag}
theorem e_gcons {t : TG} {u : TGs} {x : V} {r : List V} : gCons t u (x :: r) σ H R = t x σ H fun σ1 H1 => u r σ1 H1 R := by
  apply propext
  constructor
  · rintro ⟨v, l, h, q⟩
    cases h
    exact q
  · exact fun q => ⟨x, r, rfl, q⟩
theorem e_gnil : gNil [] σ H R = R σ H := by
  apply propext
  exact ⟨fun q => q.2, fun q => ⟨rfl, q⟩⟩
theorem e_gtup {n : Nat} {t : TGs} {v : V} : gTup K n t v σ H R = ∃ a xs, v = .ref a ∧ SqT K H a xs ∧ xs.length = n ∧ t xs σ H R := rfl
theorem e_gsub {to ti : TE} {t : TSet} {v : V} : gSub to ti t v σ H R = to σ H fun o H1 => ti σ H1 fun i H2 => t o i v H2 fun H3 => R σ H3 := rfl
theorem pg_tupK {X : Cx} (h : X.K = K) {es : List Expr} {k : Nat} {pos : Pos} {t : TGs} {n : Nat} (hc : X.calm = true) (ht : PGs X es t) (hn : (assignEach es X.env).length = n := by rfl) (hst : (assignEach es X.env).findIdx? (·.1) = none := by rfl) : PG X (.Tuple es k pos) (gTup K n t) := by
  subst h
  exact pg_tup hc ht hn hst
end
end U
namespace U
open PySem PySem.Spec PyProof.Rows L2
section
variable {σ : L2.St} {H : Hp} {Q : VK} {K : PySem.W.Frag}
theorem e_make {C : Addr} {sp : Sp} {dvs : List V} {E : XK} {t : TA} : tMake C sp dvs E t σ H Q = t σ H fun vs H1 => ∀ x dx, H1 x = none → H1 dx = none → dx ≠ x → sp (.ref x :: (vs ++ dvs)) (upd (upd H1 dx (.own x)) x (.ins C dx [])) (fun v H2 => v = .non ∧ Q (.ref x) H2) E := rfl
theorem e_makeK {C : Addr} {n m : Nat} {sp : Sp} {gV : List V → List V → List V} {E : XK} {t tk : TA} : tMakeK C n m sp gV E t tk σ H Q = t σ H fun vs H1 => tk σ H1 fun zs H2 => vs.length = n ∧ zs.length = m ∧ ∀ x dx, H2 x = none → H2 dx = none → dx ≠ x →
  sp (gV (.ref x :: vs) zs) (upd (upd H2 dx (.own x)) x (.ins C dx [])) (fun v H3 => v = .non ∧ Q (.ref x) H3) E := rfl
theorem e_callN {n m : Nat} {sp : Sp} {gV : List V → List V → List V} {E : XK} {t tk : TA} : tCallN n m sp gV E t tk σ H Q = t σ H fun vs H1 => tk σ H1 fun zs H2 => vs.length = n ∧ zs.length = m ∧ sp (gV vs zs) H2 Q E := rfl
theorem e_meth {C : Addr} {m : Str} {sp : Sp} {dvs : List V} {E : XK} {ta : TE} {t : TA} : tMeth C m sp dvs E ta t σ H Q = ta σ H fun x H1 => ∃ a dx fs, x = .ref a ∧ H1 a = some (.ins C dx fs) ∧ fs.lookup m = none ∧ t σ H1 fun vs H2 => sp (x :: (vs ++ dvs)) H2 Q E := rfl
theorem e_kTup {p : Addr} : kTup K (.ref p) H Q = ((∃ xs, SqL K H p xs ∧ ∀ q, H q = none → Q (.ref q) (upd H q (.tup xs))) ∨ (∃ xs, SqT K H p xs ∧ Q (.ref p) H)) := by
  apply propext
  unfold kTup
  constructor
  · rintro (⟨q, xs, h, r⟩ | ⟨q, xs, h, r⟩)
    · cases h
      exact .inl ⟨xs, r⟩
    · cases h
      exact .inr ⟨xs, r⟩
  · rintro (⟨xs, r⟩ | ⟨xs, r⟩)
    · exact .inl ⟨p, xs, rfl, r⟩
    · exact .inr ⟨p, xs, rfl, r⟩
end
end U
namespace U
open PySem PySem.Spec PyProof.Rows L2
set_option maxHeartbeats 8000000 in
theorem meets_enum1 {v : Value} {o : Obj} {W : Heap → Prop} (B : Begins v o W) :
    Meets (Builtin.«enumerate.__new__» ⟨[.type "enumerate", v], []⟩) (fun _ R s => W s.heap ∧
      R (.ok (.ret (.ref (s.heap.push o).objs.size))) { s with heap := (s.heap.push o).push { cls := .type "enumerate", data := .fields #[.none, .bool false, .ref s.heap.objs.size, rawInt 0, .none, .none] } }) :=
  .of_wp fun prog w A R s h => by
    obtain ⟨hp, g, d, tk, os⟩ := s
    obtain ⟨h1, h⟩ := h
    have q1 : ∀ {A' : Around} {E : Value → Shared → Prop} {Q : Value → Shared → Prop}, Q (.ref hp.objs.size) ⟨hp.push o, g, d, tk, os⟩ → wpAny (model prog w) A' (pyIter v) Q E ⟨hp, g, d, tk, os⟩ :=
      fun q => B.iter prog w _ _ ⟨hp, g, d, tk, os⟩ _ h1 q
    have hsub := sub_enumerate
    wp_walk using q1
    refine wpAny_stack_any (fun st => wpAny_pure ?_)
    split
    · rename_i c _ _ _ _ _
      cases (c == Value.type "enumerate") <;> (wp_walk using q1; exact ⟨_, rfl, h⟩)
    · wp_walk using q1
      exact ⟨_, rfl, h⟩
def enO (it : Addr) : Obj := { cls := .type "enumerate", data := .fields #[.none, .bool false, .ref it, rawInt 0, .none, .none] }
theorem call_enum1 {prog : Program} {w : World} {A : Around} {E : Value → Shared → Prop} {s : Shared} {v : Value} {o : Obj} {W : Heap → Prop} {Q : Value → Shared → Prop} (B : Begins v o W) (h1 : W s.heap)
    (q : ∀ h', IsEnum h' (s.heap.objs.size + 1) s.heap.objs.size 0 .none → h'.get? s.heap.objs.size = some o → (∀ b u, s.heap.get? b = some u → h'.get? b = some u) → Q (.ref (s.heap.objs.size + 1)) { s with heap := h' }) :
    wpAny (model prog w) A (call (.type "enumerate") [v]) Q E s := by
  refine callType_new F.called_enumerate (by decide) (F.typeCall_enumerate_1 _) (F.newCall_enumerate_1 _) (fun obj => F.args_object_init_2 obj _) F.entry_enumerate_new (meets_enum1 B) ⟨h1, ?_⟩
  have sz : (s.heap.push o).objs.size = s.heap.objs.size + 1 := Heap.size_push ..
  have en : ((s.heap.push o).push (enO s.heap.objs.size)).get? (s.heap.objs.size + 1) = some (enO s.heap.objs.size) := by
    have z := Heap.get?_push_size (s.heap.push o) (o := enO s.heap.objs.size) rfl
    rw [sz] at z
    exact z
  show _ ∧ _
  rw [sz]
  exact ⟨⟨_, en, rfl⟩, q _ en (Heap.get?_push_of_some _ (Heap.get?_push_size _ B.free)) (fun b u e => Heap.get?_push_of_some _ (Heap.get?_push_of_some _ e))⟩
/-- the tuple at a as it stands at each turn, place and item in a new pair -/
def IteT (K : PySem.W.Frag) (a : Addr) : It where
  go i H := ∃ (xs : List V) (x : V), SqT K H a xs ∧ xs[i]? = some x
  yld i H v H' := ∃ T x, v = .ref T ∧ H T = none ∧ H' = upd H T (.tup [.int (i : Nat), x]) ∧ ∀ xs, SqT K H a xs → xs[i]? = some x
  stop i H := ∃ xs : List V, SqT K H a xs ∧ xs.length = i
theorem turn_enumT {P : Program} {w : World} {K : PySem.W.Frag} {elts : List Expr} {kk : Nat} {tpos : Pos} (a e it : Addr) (ha : a ≠ it) (hae : e ≠ a) (hei : e ≠ it) :
    Turn P w K (.Tuple elts kk tpos) (IteT K a) [e, it] e (fun i h => (∃ old, IsEnum h e it ((i : Nat) : Int) old) ∧ h.IsTupleIter it a i) where
  mem := List.mem_cons_self
  obj := fun i h st b hb => by
    obtain ⟨⟨old, he⟩, o, ho, hc, hd⟩ := st
    rcases List.mem_cons.mp hb with z | z
    · exact ⟨_, by rw [z]; exact he, fun v q => by cases q⟩
    · have z' : b = it := List.mem_singleton.mp z
      exact ⟨o, by rw [z']; exact ho, fun v q => by rw [hd] at q; cases q⟩
  keep := fun i h h' st k => by
    obtain ⟨⟨old, he⟩, hi⟩ := st
    exact ⟨⟨old, k e List.mem_cons_self _ he⟩, hi.at fun o q => k it (List.mem_cons_of_mem _ List.mem_cons_self) o q⟩
  item := by
    intro X hP hw hK hc i pins s σ H E I hf st hg
    subst hP hw hK
    obtain ⟨⟨old, he⟩, hit⟩ := st
    obtain ⟨xs, x, hq, hx⟩ := hg
    obtain ⟨its, rv, p, hz⟩ := I.tuple hq
    obtain ⟨u, hu, ru⟩ := rv.get hx
    have tp : s.heap.IsTuple a its.toArray := p
    have lt1 : e < s.heap.objs.size := Heap.lt_size he
    have lt2 : it < s.heap.objs.size := by
      obtain ⟨_, q, _⟩ := hit
      exact Heap.lt_size q
    have hu2 : its.toArray[i]? = some u := by simpa using hu
    have hlt : i < its.toArray.size := by
      rcases Nat.lt_or_ge i its.toArray.size with z | z
      · exact z
      · rw [Array.getElem?_eq_none z] at hu2
        cases hu2
    have D := Draws.tuple (prog := X.prog) (w := X.w) (A := X.A.in1) (I.ok.hd hc) it a ha its.toArray
    refine wpAny_pyNext_enum_itemD D he ⟨hit, tp⟩ hlt hei (by simp [hei, hae]) ?_
    intro x' h' tk hx' ho hst' hT hsz hk
    rw [hu2] at hx'
    cases hx'
    refine ⟨_, rfl, wpAny_letOwnedTupleGo_enum (s := { s with heap := h', toks := tk + 1 }) ho ?_⟩
    intro h'' he' sb
    have ne1 : s.heap.objs.size ≠ e := Nat.ne_of_gt lt1
    have hT2 := (sb.2 _ ne1).trans hT
    have new : ObjOk X.prog X.w (upd H s.heap.objs.size (.tup [.int (i : Nat), x])) h'' s.heap.objs.size (.tup [.int (i : Nat), x]) :=
      ⟨by show 2 ≤ sizeLine; decide, [.int i tk, u], .cons ⟨_, rfl⟩ (.cons ru .nil), ⟨_, hT2, rfl, _, rfl⟩⟩
    have kp : ∀ b ob, b ∉ [e, it] → s.heap.get? b = some ob → h''.get? b = some ob := fun b ob hb q => by
      have b1 : b ≠ e := fun z => hb (by simp [z])
      have b2 : b ≠ it := fun z => hb (by simp [z])
      exact (sb.2 b b1).trans (hk b ob b1 b2 q)
    have I1 : Inv X pins σ (upd H s.heap.objs.size (.tup [.int (i : Nat), x])) { s with heap := h'', toks := tk + 1 } := I.turnedNew (ch := [e, it]) kp hf (Nat.le_refl _) new
    have fr : H s.heap.objs.size = none := I.hok.fresh (Nat.le_refl _)
    refine ⟨.ref s.heap.objs.size, _, I1, rfl, ⟨_, x, rfl, fr, rfl, fun ys hy => by rw [I.tuple_inj hy hq]; exact hx⟩, ⟨⟨u, ?_⟩, hst'.1.at fun o q => (sb.2 it hei.symm).trans q⟩, fun b hb => ?_⟩
    · have e1 : ((i + 1 : Nat) : Int) = (i : Int) + 1 := by omega
      rw [e1]
      exact he'
    · have hb' : b < s.heap.objs.size := by
        rcases List.mem_cons.mp hb with z | z
        · rw [z]
          exact lt1
        · rw [List.mem_singleton.mp z]
          exact lt2
      rw [upd_ne (Nat.ne_of_lt hb')]
      exact (hf b hb).1
  done := by
    intro X hP hw hK hc i pins s σ H E I hf st hg
    subst hP hw hK
    obtain ⟨⟨old, he⟩, hit⟩ := st
    obtain ⟨xs, hq, hx⟩ := hg
    obtain ⟨its, rv, p, hz⟩ := I.tuple hq
    have tp : s.heap.IsTuple a its.toArray := p
    obtain ⟨f0, f1, f2, f3, f4, f5⟩ := hf it (List.mem_cons_of_mem _ List.mem_cons_self)
    have hl := rv.length
    have D := Draws.tuple (prog := X.prog) (w := X.w) (A := X.A.in1) (I.ok.hd hc) it a ha its.toArray
    have ei : its.toArray.size = i := by
      rw [List.size_toArray, ← hl, hx]
    refine wpAny_pyNext_enum_endD D he ⟨by rw [ei]; exact hit, tp⟩ ?_
    intro h' eb
    exact ⟨rfl, I.turned (t' := s.toks) (fun b o hb q => eb b o hb q) f0 f1 f3 f4 f5⟩
  self := fun A i s Q E st h => by
    obtain ⟨⟨_, he⟩, _⟩ := st
    exact wpAny_pyIter_enum he h
def iEnumT (K : PySem.W.Frag) (ta : TA) : TI := fun σ H R => ta σ H fun vs H1 => ∃ a xs, vs = [.ref a] ∧ SqT K H1 a xs ∧ R (IteT K a) H1
theorem pi_enumT {X : Cx} {K : PySem.W.Frag} {e : Expr} {ta : TA} {p pos tpos : Pos} {elts : List Expr} {kk : Nat} (hK : X.K = K) (hg : Gl X "enumerate") (hm : X.mg "enumerate" = none) (ha : PA X [e] ta) (hs : starEach [e] X.env = [(false, eval e X.env)] := by rfl) :
    PI X (.Tuple elts kk tpos) (.Call (.Name "enumerate" p) [e] [] pos) (iEnumT K ta) := by
  subst hK
  refine ⟨fun pins s σ H R I h => Call_ (ld_blt I hg hm boot_enumerate (PyProof.Rows.callWith_type1 (thn (ha.run pos pins s σ H _ I h) ?_) hs rfl))⟩
  rintro us s1 ⟨vs, H1, I1, r1, a, xs, rfl, hq, q⟩
  obtain ⟨u, rfl, ru⟩ := vals1 r1
  cases ru
  obtain ⟨its, rv, p', hz⟩ := I1.tuple hq
  have tp : s1.heap.IsTuple a its.toArray := p'
  have la : a < s1.heap.objs.size := by
    obtain ⟨o, z, _⟩ := tp
    exact Heap.lt_size z
  refine call_enum1 (begins_tuple a its.toArray) tp ?_
  intro h' he hit hk
  refine wpAny_pyIter_enum he ?_
  have I2 : Inv X pins σ H1 { s1 with heap := h' } := I1.kept (t' := s1.toks) hk
  have n1 : a ≠ s1.heap.objs.size := Nat.ne_of_lt la
  have n2 : s1.heap.objs.size + 1 ≠ a := fun z => by rw [← z] at la; exact absurd la (Nat.not_lt.mpr (Nat.le_succ _))
  refine ⟨s1.heap.objs.size + 1, [s1.heap.objs.size + 1, s1.heap.objs.size], _, _, H1, rfl, I2, turn_enumT a (s1.heap.objs.size + 1) s1.heap.objs.size n1 n2 (Nat.succ_ne_self _), ⟨⟨.none, he⟩, ?_⟩, fun b hb => ?_, q⟩
  · exact ⟨_, hit, rfl, rfl⟩
  · have hle : s1.heap.objs.size ≤ b := by
      rcases List.mem_cons.mp hb with z | z
      · rw [z]
        exact Nat.le_succ _
      · rw [List.mem_singleton.mp z]
        exact Nat.le_refl _
    exact I1.fpOk hle (I1.hok.fresh hle)
def rForE (K : PySem.W.Frag) (g : TG) (tb : TS) (D0 : Ends) (σ : L2.St) (vs : List V) (H1 : Hp) : Prop := ∃ a xs, vs = [.ref a] ∧ SqT K H1 a xs ∧ ForOn (IteT K a) g tb D0 σ H1
section
variable {K : PySem.W.Frag} {S : Addr → Prop} {H H1 : Hp} {a : Addr} {xs : List V} {g : TG} {tb : TS} {σ : L2.St} {D0 : Ends} {ta : TA}
theorem e_forE : tFor (iEnumT K ta) g tb D0 σ H = ta σ H fun x H1 => rForE K g tb D0 σ x H1 := rfl
end
end U
namespace U
open PySem PySem.Spec PyProof.Rows L2
theorem cutV_to (xs : List V) (n : Nat) : cutV xs none (some (n : Int)) = xs.take n := by
  unfold cutV
  rw [HT.sIx_none, HT.sIx_nat, List.drop_zero, Nat.sub_zero]
  by_cases h : n ≤ xs.length
  · rw [Nat.min_eq_left h]
  · rw [Nat.min_eq_right (by omega), List.take_of_length_le (by omega), List.take_of_length_le (by omega)]
theorem cutS_to (z : Str) (n : Nat) : cutS z none (some (n : Int)) = ofL ((cd z).take n) := by
  have hl := cd_len z
  unfold cutS
  rw [HT.sIx_none, HT.sIx_nat, List.drop_zero, Nat.sub_zero]
  show ofL ((cd z).take _) = _
  by_cases h : n ≤ z.length
  · rw [Nat.min_eq_left h]
  · rw [Nat.min_eq_right (by omega), List.take_of_length_le (by omega), List.take_of_length_le (by omega)]
theorem cutS_from (z : Str) (n : Nat) : cutS z (some (n : Int)) none = ofL ((cd z).drop n) := by
  have hl := cd_len z
  unfold cutS
  rw [HT.sIx_none, HT.sIx_nat]
  show ofL (((cd z).drop _).take _) = _
  by_cases h : n ≤ z.length
  · rw [Nat.min_eq_left h, List.take_of_length_le (by rw [List.length_drop]; omega)]
  · rw [Nat.min_eq_right (by omega), Nat.sub_self, List.take_zero, List.drop_eq_nil_of_le (by omega)]
end U
namespace U
theorem sum_ones {α : Type} (l : List α) : (l.map fun _ => 1).sum = l.length := by
  induction l with
  | nil => rfl
  | cons a r ih =>
    rw [List.map_cons, List.sum_cons, ih, List.length_cons]
    omega
end U
namespace U
open PySem PySem.Spec PyProof.Rows L2
theorem sql_sm {K : PySem.W.Frag} {H H' : Hp} {a : Addr} {xs : List V} (h : SqL K H a xs) (e : Same H H') : SqL K H' a xs :=
  h.elim (fun h => .inl (h.elim (fun h => .inl (e _ _ h)) fun ⟨o, h⟩ => .inr ⟨o, e _ _ h⟩)) fun h => .inr h
end U
namespace U
open PySem PySem.Spec PyProof.Rows L2
theorem e_lstRg {ta : TE} {σ : L2.St} {H : Hp} {Q : VK} : tLstRg (tRg1 ta) σ H Q = ta σ H fun x H1 => ∃ n, x = .int n ∧ RgOk 0 n ∧ ∀ q, H1 q = none → Q (.ref q) (upd H1 q (.lst (rgV 0 n))) := rfl
def lenP (s : Sh) (n : Nat) : Nat := if n ≤ s.limit then n else min s.head n + s.mark.length + min s.tail n
def lenR (row : List Sh) (n : Nat) : Nat := row.foldl (fun m s => lenP s m) n
/-- the places 0 .. n - 1 -/
def pl (i : Nat) : D := .int (i : Nat)
end U
namespace U
open PySem PySem.Spec PyProof.Rows L2
structure PyOk (W k : Nat) (p : PyData) : Prop where
  lay : p.canLay0 = true
  itx : PyData.intsShort 13 p = true
  sh : PyData.showable p = true
  nd : PyData.hasDict p = false
  dep : PyData.depth p ≤ k
  wt : PyData.weight p ≤ W
structure PysOk (W k : Nat) (ps : List PyData) : Prop where
  lay : PyData.canLayAll0 ps = true
  itx : PyData.intsShortAll 13 ps = true
  sh : PyData.showableAll ps = true
  nd : PyData.hasDictAll ps = false
  dep : PyData.depthAll ps ≤ k
  wt : PyData.weightAll ps ≤ W
theorem PysOk.nil (W k : Nat) : PysOk W k [] := ⟨rfl, rfl, rfl, rfl, Nat.zero_le _, Nat.zero_le _⟩
theorem PysOk.cons {W W' k : Nat} {p : PyData} {ps : List PyData} (a : PyOk W k p) (b : PysOk W' k ps) : PysOk (W + 1 + W') k (p :: ps) := by
  obtain ⟨a1, a2, a3, a4, a5, a6⟩ := a
  obtain ⟨b1, b2, b3, b4, b5, b6⟩ := b
  refine ⟨?_, ?_, ?_, ?_, ?_, ?_⟩
  · rw [PyData.canLayAll0, a1, b1]; rfl
  · rw [PyData.intsShortAll, a2, b2]; rfl
  · rw [PyData.showableAll, a3, b3]; rfl
  · rw [PyData.hasDictAll, a4, b4]; rfl
  · rw [PyData.depthAll]; omega
  · rw [PyData.weightAll]; omega
theorem PyOk.mono {W W' k k' : Nat} {p : PyData} (a : PyOk W k p) (h : W ≤ W') (h2 : k ≤ k') : PyOk W' k' p := ⟨a.lay, a.itx, a.sh, a.nd, Nat.le_trans a.dep h2, Nat.le_trans a.wt h⟩
theorem PysOk.mono {W W' k k' : Nat} {p : List PyData} (a : PysOk W k p) (h : W ≤ W') (h2 : k ≤ k') : PysOk W' k' p := ⟨a.lay, a.itx, a.sh, a.nd, Nat.le_trans a.dep h2, Nat.le_trans a.wt h⟩
theorem PysOk.list {W k : Nat} {ps : List PyData} (a : PysOk W k ps) : PyOk W (k + 1) (.list ps) :=
  ⟨by rw [PyData.canLay0]; exact a.lay, by rw [PyData.intsShort]; exact a.itx, by rw [PyData.showable]; exact a.sh, by rw [PyData.hasDict]; exact a.nd, by rw [PyData.depth]; have := a.dep; omega, by rw [PyData.weight]; exact a.wt⟩
theorem PysOk.tuple {W k : Nat} {ps : List PyData} (a : PysOk W k ps) : PyOk W (k + 1) (.tuple ps) :=
  ⟨by rw [PyData.canLay0]; exact a.lay, by rw [PyData.intsShort]; exact a.itx, by rw [PyData.showable]; exact a.sh, by rw [PyData.hasDict]; exact a.nd, by rw [PyData.depth]; have := a.dep; omega, by rw [PyData.weight]; exact a.wt⟩
theorem PyOk.int {i : Int} (h : i.natAbs < 10 ^ 12) : PyOk 40 0 (.int i) := by
  refine ⟨rfl, ?_, ?_, rfl, by rw [PyData.depth]; exact Nat.le_refl _, ?_⟩
  · rw [PyData.intsShort]
    exact decide_eq_true (PyData.shown_int_le h)
  · rw [PyData.showable]
    refine decide_eq_true ?_
    have : i.natAbs.log2 ≤ 40 := by
      by_cases z : i.natAbs = 0
      · rw [z]; decide
      · exact Nat.le_of_lt_succ ((Nat.log2_lt z).mpr (Nat.lt_of_lt_of_le h (by decide)))
    omega
  · rw [PyData.weight]
    split
    · omega
    · have : i.natAbs.log2 < 40 := by
        by_cases z : i.natAbs = 0
        · rw [z]; decide
        · exact (Nat.log2_lt z).mpr (Nat.lt_of_lt_of_le h (by decide))
      omega
theorem PyOk.bl (b : Bool) : PyOk 0 0 (.bool b) := ⟨rfl, rfl, rfl, rfl, by rw [PyData.depth]; exact Nat.le_refl _, by rw [PyData.weight]; exact Nat.le_refl _⟩
theorem PyOk.non : PyOk 0 0 .none := ⟨rfl, rfl, rfl, rfl, by rw [PyData.depth]; exact Nat.le_refl _, by rw [PyData.weight]; exact Nat.le_refl _⟩
theorem PyOk.str {z : Str} {n : Nat} (h : PyData.strOk z = true) (hn : z.length ≤ n) : PyOk n 0 (.str z) :=
  ⟨by rw [PyData.canLay0]; exact h, rfl, rfl, rfl, by rw [PyData.depth]; exact Nat.le_refl _, by rw [PyData.weight]; exact hn⟩
theorem PyOk.shaped {W k : Nat} {p : PyData} (h : PyOk W k p) (hk : k ≤ 64) : SeqAt.shaped p = true := by
  unfold SeqAt.shaped
  rw [Bool.and_eq_true]
  exact ⟨h.lay, decide_eq_true (Nat.le_trans h.dep hk)⟩
theorem PyOk.fits {W k : Nat} {p : PyData} (h : PyOk W k p) (hW : W ≤ 1048576) : (PyData.shown p).length ≤ sizeLine :=
  PyData.shown_fits (B := 13) (by decide) (by decide) (PyData.leavesShort_of_canLay0 13 p h.lay h.itx) (Nat.le_trans h.wt hW)
/-- a datum that can be compared and shown -/
def okP (W k : Nat) (d : D) : Prop := ∃ p, D.py d = some p ∧ PyOk W k p
def okPs (W k : Nat) (ds : List D) : Prop := ∃ ps, D.pys ds = some ps ∧ PysOk W k ps
theorem okPs.nil (W k : Nat) : okPs W k [] := ⟨[], by rw [D.pys], .nil _ _⟩
theorem okPs.cons {W W' k : Nat} {d : D} {ds : List D} : okP W k d → okPs W' k ds → okPs (W + 1 + W') k (d :: ds) := fun ⟨p, e, a⟩ ⟨ps, e2, b⟩ => ⟨p :: ps, by rw [D.pys, e, e2], .cons a b⟩
theorem okPs.all {W k : Nat} : ∀ {ds : List D}, (∀ d ∈ ds, okP W k d) → okPs (ds.length * (W + 1)) k ds
  | [], _ => okPs.nil _ _
  | d :: ds, h => by
    obtain ⟨ps, e, a⟩ := okPs.cons (h d List.mem_cons_self) (okPs.all fun x hx => h x (List.mem_cons_of_mem _ hx))
    refine ⟨ps, e, a.mono ?_ (Nat.le_refl _)⟩
    rw [List.length_cons, Nat.succ_mul]
    omega
theorem okPs.list {W k : Nat} {ds : List D} : okPs W k ds → okP W (k + 1) (.lst ds) := fun ⟨ps, e, a⟩ => ⟨.list ps, by rw [D.py, e]; rfl, a.list⟩
theorem okPs.tuple {W k : Nat} {ds : List D} : okPs W k ds → okP W (k + 1) (.tup ds) := fun ⟨ps, e, a⟩ => ⟨.tuple ps, by rw [D.py, e]; rfl, a.tuple⟩
theorem okP.mono {W W' k k' : Nat} {d : D} : okP W k d → W ≤ W' → k ≤ k' → okP W' k' d := fun ⟨p, e, a⟩ h h2 => ⟨p, e, a.mono h h2⟩
theorem okP.int {i : Int} (h : i.natAbs < 10 ^ 12) : okP 40 0 (.int i) := ⟨_, by rw [D.py], .int h⟩
end U
namespace U
open PySem PySem.Spec PyProof.Rows L2
section
variable {X : Cx}
def rMulS : R2 := fun x y H Q => ∃ z n, x = .str z ∧ y = .int n ∧ z.length ≤ 2000 ∧ 0 ≤ n ∧ n ≤ 8000 ∧ Q (.str (Txt.mul z n)) H
end
theorem cd_append (a b : Str) : cd (a ++ b) = cd a ++ cd b := by
  show (a.cps ++ b.cps).toList = _
  rw [Array.toList_append]
  rfl
theorem len_append (a b : Str) : (a ++ b).length = a.length + b.length := by
  rw [← cd_len, cd_append, List.length_append, cd_len, cd_len]
inductive Ru where
  | count | free | tight
def Ru.str : Ru → Str
  | .count => "count"
  | .free => "free"
  | .tight => "tight"
end U
namespace U
open PySem PySem.Spec PyProof.Rows L2
section
variable {K : PySem.W.Frag} {H : Hp} {Q : VK}
theorem joinL {p : Addr} {l : List Nat} (hp : H p = some (.lst (l.map fun c => V.str (one c)))) (hl : l.length ≤ 4000000) (q : Q (.str (ofL l)) H) : rJoin K (.str (Str.ofString "")) [.ref p] H Q := by
  refine ⟨_, p, l.map one, rfl, rfl, .inl (SqL.of (by rw [hp, List.map_map]; rfl)), ?_, ?_⟩
  · rw [List.map_map, List.length_map]
    have e4 : l.map ((fun x => x.length) ∘ one) = l.map fun _ => 1 := rfl
    rw [e4, sum_ones]
    show _ + _ * 0 ≤ _
    omega
  · rw [U.join_one1]
    exact q
end
end U
namespace U
open PySem PySem.Spec PyProof.Rows L2
end U
namespace U
open PySem PySem.Spec PyProof.Rows L2 HT
section
variable {X : Cx}
def tRevT (K : PySem.W.Frag) (te : TE) : TE := fun σ H Q => te σ H fun x H1 => ∃ a xs, x = .ref a ∧ SqT K H1 a xs ∧ ∀ p, H1 p = none → Q (.ref p) (upd H1 p (.tup xs.reverse))
end
end U
namespace V
open PySem PySem.Spec PyProof.Rows L2 U StX
/-- what may change -/
inductive MO where
  | lst (ds : List D)
  | dic (kvs : List (Key × D))
  | dct (kvs : List (List Key × D))
  | ins (C : Addr) (fs : List (Str × D))
  | tab (q : Str)
  | sys
  | xob (C : Addr) (fs : List (Str × D))
abbrev Mem := Addr → Option MO
def mset (M : Mem) (a : Addr) (o : MO) : Mem := fun b => if b = a then some o else M b
def mdel (M : Mem) (a : Addr) : Mem := fun b => if b = a then none else M b
theorem mset_same {M : Mem} {a : Addr} {o : MO} : mset M a o a = some o := if_pos rfl
theorem mset_ne {M : Mem} {a b : Addr} {o : MO} (h : b ≠ a) : mset M a o b = M b := if_neg h
theorem mset_set {M : Mem} {a : Addr} {o u : MO} : mset (mset M a o) a u = mset M a u := by
  funext b
  unfold mset
  split <;> rfl
theorem mdel_set {M : Mem} {a : Addr} {o : MO} (h : M a = none) : mdel (mset M a o) a = M := by
  funext b
  show (if b = a then none else if b = a then some o else M b) = M b
  by_cases c : b = a
  · rw [if_pos c, c, h]
  · rw [if_neg c, if_neg c]
/-- the fields of an exception whose dict is d -/
def XF (S : Addr → Prop) (H : Hp) (d : Option Addr) (fs : List (Str × D)) : Prop :=
  (d = none ∧ fs = []) ∨ ∃ dd gs, d = some dd ∧ ¬ S dd ∧ H dd = some (.xd gs) ∧ gs.map (·.1) = fs.map (·.1) ∧ DtA S H (gs.map (·.2)) (fs.map (·.2))
def Held (S : Addr → Prop) (H : Hp) (a : Addr) : MO → Prop
  | .lst ds => ∃ vs, H a = some (.lst vs) ∧ DtA S H vs ds
  | .dic kvs => ∃ ws, H a = some (.dK ws) ∧ ws.map (·.1) = kvs.map (·.1) ∧ DtA S H (ws.map (·.2)) (kvs.map (·.2))
  | .dct kvs => ∃ ws, H a = some (.dT ws) ∧ ws.map (·.1) = kvs.map (·.1) ∧ DtA S H (ws.map (·.2)) (kvs.map (·.2))
  | .ins C fs => ∃ dx gs, H a = some (.ins C dx gs) ∧ gs.map (·.1) = fs.map (·.1) ∧ DtA S H (gs.map (·.2)) (fs.map (·.2))
  | .tab q => ∃ ps : Array Value, H a = some (.tbl ps) ∧ TriplesOk ps.toList ∧ ∀ (pos : Pos) (cv : Value), codeAmong pos ps.toList = some cv → ∃ c, cv = .ref c ∧ H c = some (LamX.CodeO c q) ∧ ¬ S c
  | .sys => ∃ (o : Obj) (es : Array DictEntry) (ep : Nat), H a = some (.frz o (.ext fun _ => True)) ∧ o.data = .dict es ep
  | .xob C fs => ∃ (o : Obj) (us : Array Value), H a = some (.frz o (.ext fun _ => True)) ∧ o.cls = .ref C ∧ o.data = .fields us ∧ XF S H o.dict fs
structure Wo (S : Addr → Prop) (M : Mem) (H : Hp) : Prop where
  tr : ∀ a, S a → H a ≠ none
  mem : ∀ a mo, M a = some mo → S a ∧ Held S H a mo
structure Step (S : Addr → Prop) (M : Mem) (H : Hp) (S' : Addr → Prop) (M' : Mem) (H' : Hp) : Prop where
  keep : ∀ b o, M b = none → H b = some o → H' b = some o ∧ M' b = none ∧ (S' b ↔ S b)
/-- slots: what is known of them -/
abbrev Dl := List (Option D)
structure En (S : Addr → Prop) (H : Hp) (σ : L2.St) (δ : Dl) : Prop where
  len : σ.length = δ.length
  at_ : ∀ (i : Nat) (d : D), δ[i]? = some (some d) → ∃ v, σ[i]? = some (some v) ∧ Dt S H v d
section
variable {S S' S1 S2 : Addr → Prop} {M M' M1 M2 : Mem} {H H' H1 H2 : Hp} {σ : L2.St} {δ : Dl}
theorem Step.refl : Step S M H S M H := ⟨fun _ _ h e => ⟨e, h, Iff.rfl⟩⟩
theorem Step.trans (a : Step S M H S1 M1 H1) (b : Step S1 M1 H1 S2 M2 H2) : Step S M H S2 M2 H2 := ⟨fun c o h e => by
  obtain ⟨e1, h1, s1⟩ := a.keep c o h e
  obtain ⟨e2, h2, s2⟩ := b.keep c o h1 e1
  exact ⟨e2, h2, s2.trans s1⟩⟩
theorem Wo.mn (w : Wo S M H) {a : Addr} (h : ¬ S a) : M a = none := by
  cases e : M a with
  | none => rfl
  | some mo => exact (h (w.mem a mo e).1).elim
theorem Wo.ns (w : Wo S M H) {a : Addr} (h : H a = none) : ¬ S a := fun z => w.tr a z h
theorem Wo.fresh (w : Wo S M H) {a : Addr} (h : H a = none) : M a = none := w.mn (w.ns h)
mutual
theorem dt_step (w : Wo S M H) (t : Step S M H S' M' H') : ∀ (d : D) {v : V}, Dt S H v d → Dt S' H' v d
  | .non, _, h => by cases h; exact .non
  | .bl b, _, h => by cases h; exact .bl b
  | .int i, _, h => by cases h; exact .int i
  | .str x, _, h => by cases h; exact .str x
  | .ptr x, _, h => by cases h; exact .ptr x
  | .ty x, _, h => by cases h; exact .ty x
  | .lst ds, _, h => by
    cases h with
    | lst n ha hs =>
      obtain ⟨e1, h1, s1⟩ := t.keep _ _ (w.mn n) ha
      exact .lst (fun z => n (s1.mp z)) e1 (dtA_step w t ds hs)
  | .tup ds, _, h => by
    cases h with
    | tup n ha hs =>
      obtain ⟨e1, h1, s1⟩ := t.keep _ _ (w.mn n) ha
      exact .tup (fun z => n (s1.mp z)) e1 (dtA_step w t ds hs)
  | .ins C ns ds, _, h => by
    cases h with
    | ins n ha hn hs =>
      obtain ⟨e1, h1, s1⟩ := t.keep _ _ (w.mn n) ha
      exact .ins (fun z => n (s1.mp z)) e1 hn (dtA_step w t ds hs)
  | .opq a o, _, h => by
    cases h with
    | opq n ha =>
      obtain ⟨e1, h1, s1⟩ := t.keep _ _ (w.mn n) ha
      exact .opq (fun z => n (s1.mp z)) e1
  | .ftp ds, _, h => by
    cases h with
    | ftp n ha hd hs =>
      obtain ⟨e1, h1, s1⟩ := t.keep _ _ (w.mn n) ha
      exact .ftp (fun z => n (s1.mp z)) e1 hd (dtA_step w t ds hs)
theorem dtA_step (w : Wo S M H) (t : Step S M H S' M' H') : ∀ (ds : List D) {vs : List V}, DtA S H vs ds → DtA S' H' vs ds
  | [], _, h => by cases h; exact .nil
  | d :: ds, _, h => by
    cases h with
    | cons h1 h2 => exact .cons (dt_step w t d h1) (dtA_step w t ds h2)
end
theorem En.step (e : En S H σ δ) (w : Wo S M H) (t : Step S M H S' M' H') : En S' H' σ δ :=
  ⟨e.len, fun i d h => by
    obtain ⟨v, h1, h2⟩ := e.at_ i d h
    exact ⟨v, h1, dt_step w t d h2⟩⟩
theorem En.set (e : En S H σ δ) {i : Nat} {v : V} {d : D} (h : Dt S H v d) : En S H (σ.set i (some v)) (δ.set i (some d)) := by
  refine ⟨by rw [List.length_set, List.length_set]; exact e.len, fun j y hj => ?_⟩
  by_cases c : i = j
  · subst c
    by_cases l : i < δ.length
    · rw [List.getElem?_set_self l] at hj
      cases hj
      exact ⟨v, List.getElem?_set_self (by rw [e.len]; exact l), h⟩
    · rw [List.getElem?_eq_none (by rw [List.length_set]; omega)] at hj
      cases hj
  · rw [List.getElem?_set_ne c] at hj
    rw [List.getElem?_set_ne c]
    exact e.at_ j y hj
theorem En.unset (e : En S H σ δ) {i : Nat} {o : Option V} : En S H (σ.set i o) (δ.set i none) := by
  refine ⟨by rw [List.length_set, List.length_set]; exact e.len, fun j y hj => ?_⟩
  by_cases c : i = j
  · subst c
    by_cases l : i < δ.length
    · rw [List.getElem?_set_self l] at hj
      cases hj
    · rw [List.getElem?_eq_none (by rw [List.length_set]; omega)] at hj
      cases hj
  · rw [List.getElem?_set_ne c] at hj
    rw [List.getElem?_set_ne c]
    exact e.at_ j y hj
def wipeD (δ : Dl) : List Nat → Dl
  | [] => δ
  | v :: vs => (wipeD δ vs).set v none
theorem En.wipe (e : En S H σ δ) : ∀ vs : List Nat, En S H (L2.wipe σ vs) (wipeD δ vs)
  | [] => e
  | v :: vs => (En.wipe e vs).unset
/-- an object that no store speaks of -/
theorem Wo.new (w : Wo S M H) {p : Addr} {o : HO} (h : H p = none) : Wo S M (upd H p o) := by
  refine ⟨fun a s => ?_, fun a mo e => ?_⟩
  · rw [upd_ne (fun z => w.tr a s (by rw [z]; exact h))]
    exact w.tr a s
  · obtain ⟨s, k⟩ := w.mem a mo e
    have na : a ≠ p := fun z => w.tr a s (by rw [z]; exact h)
    refine ⟨s, ?_⟩
    cases mo with
    | lst ds =>
      obtain ⟨vs, h1, h2⟩ := k
      exact ⟨vs, (upd_ne na).trans h1, h2.sm (Same.new h)⟩
    | dic ds =>
      obtain ⟨vs, h1, h3, h2⟩ := k
      exact ⟨vs, (upd_ne na).trans h1, h3, h2.sm (Same.new h)⟩
    | dct ds =>
      obtain ⟨vs, h1, h3, h2⟩ := k
      exact ⟨vs, (upd_ne na).trans h1, h3, h2.sm (Same.new h)⟩
    | ins C ds =>
      obtain ⟨dx, vs, h1, h3, h2⟩ := k
      exact ⟨dx, vs, (upd_ne na).trans h1, h3, h2.sm (Same.new h)⟩
    | tab q =>
      obtain ⟨ps, h1, h2, h3⟩ := k
      refine ⟨ps, (upd_ne na).trans h1, h2, fun pos cv hc => ?_⟩
      obtain ⟨c, e1, e2, e3⟩ := h3 pos cv hc
      exact ⟨c, e1, Same.new h _ _ e2, e3⟩
    | sys =>
      obtain ⟨o, es, ep, h1, h2⟩ := k
      exact ⟨o, es, ep, (upd_ne na).trans h1, h2⟩
    | xob C fs =>
      obtain ⟨o, us, h1, h2, h3, h4⟩ := k
      exact ⟨o, us, (upd_ne na).trans h1, h2, h3, h4.imp id fun ⟨dd, gs, e1, e2, e3, e4, e5⟩ => ⟨dd, gs, e1, e2, Same.new h _ _ e3, e4, e5.sm (Same.new h)⟩⟩
theorem Step.new {p : Addr} {o : HO} (h : H p = none) : Step S M H S M (upd H p o) := ⟨fun b u n e => ⟨Same.new h b u e, n, Iff.rfl⟩⟩
/-- the heap grows, the store stays -/
theorem Wo.same (w : Wo S M H) (e : Same H H') : Wo S M H' := by
  refine ⟨fun a s => ?_, fun a mo k => ?_⟩
  · cases h : H a with
    | none => exact (w.tr a s h).elim
    | some o =>
      rw [e _ _ h]
      exact fun z => nomatch z
  · obtain ⟨s, k⟩ := w.mem a mo k
    refine ⟨s, ?_⟩
    cases mo with
    | lst ds =>
      obtain ⟨vs, h1, h2⟩ := k
      exact ⟨vs, e _ _ h1, h2.sm e⟩
    | dic ds =>
      obtain ⟨vs, h1, h3, h2⟩ := k
      exact ⟨vs, e _ _ h1, h3, h2.sm e⟩
    | dct ds =>
      obtain ⟨vs, h1, h3, h2⟩ := k
      exact ⟨vs, e _ _ h1, h3, h2.sm e⟩
    | ins C ds =>
      obtain ⟨dx, vs, h1, h3, h2⟩ := k
      exact ⟨dx, vs, e _ _ h1, h3, h2.sm e⟩
    | tab q =>
      obtain ⟨ps, h1, h2, h3⟩ := k
      refine ⟨ps, e _ _ h1, h2, fun pos cv hc => ?_⟩
      obtain ⟨c, e1, e2, e3⟩ := h3 pos cv hc
      exact ⟨c, e1, e _ _ e2, e3⟩
    | sys =>
      obtain ⟨o, es, ep, h1, h2⟩ := k
      exact ⟨o, es, ep, e _ _ h1, h2⟩
    | xob C fs =>
      obtain ⟨o, us, h1, h2, h3, h4⟩ := k
      exact ⟨o, us, e _ _ h1, h2, h3, h4.imp id fun ⟨dd, gs, e1, e2, e3, e4, e5⟩ => ⟨dd, gs, e1, e2, e _ _ e3, e4, e5.sm e⟩⟩
theorem Step.same (e : Same H H') : Step S M H S M H' := ⟨fun b u n h => ⟨e _ _ h, n, Iff.rfl⟩⟩
/-- one more object stands apart -/
theorem held_set {a : Addr} {mo : MO} (f : ∀ a, ¬ S a → H a ≠ none → ¬ S' a) (k : Held S H a mo) : Held S' H a mo := by
  cases mo with
  | lst ds =>
    obtain ⟨vs, h1, h2⟩ := k
    exact ⟨vs, h1, DtA.set f ds h2⟩
  | dic ds =>
    obtain ⟨vs, h1, h3, h2⟩ := k
    exact ⟨vs, h1, h3, DtA.set f _ h2⟩
  | dct ds =>
    obtain ⟨vs, h1, h3, h2⟩ := k
    exact ⟨vs, h1, h3, DtA.set f _ h2⟩
  | ins C ds =>
    obtain ⟨dx, vs, h1, h3, h2⟩ := k
    exact ⟨dx, vs, h1, h3, DtA.set f _ h2⟩
  | tab q =>
    obtain ⟨ps, h1, h2, h3⟩ := k
    refine ⟨ps, h1, h2, fun pos cv hc => ?_⟩
    obtain ⟨c, e1, e2, e3⟩ := h3 pos cv hc
    exact ⟨c, e1, e2, f _ e3 (by rw [e2]; exact fun z => nomatch z)⟩
  | sys => exact k
  | xob C fs =>
    obtain ⟨o, us, h1, h2, h3, h4⟩ := k
    exact ⟨o, us, h1, h2, h3, h4.imp id fun ⟨dd, gs, e1, e2, e3, e4, e5⟩ => ⟨dd, gs, e1, f _ e2 (by rw [e3]; exact fun z => nomatch z), e3, e4, DtA.set f _ e5⟩⟩
theorem held_ext {a : Addr} {mo : MO} (e : Ext S H H') (ha : ∀ o, H a = some o → H' a = some o) (k : Held S H a mo) : Held S H' a mo := by
  cases mo with
  | lst ds =>
    obtain ⟨vs, h1, h2⟩ := k
    exact ⟨vs, ha _ h1, h2.go e⟩
  | dic ds =>
    obtain ⟨vs, h1, h3, h2⟩ := k
    exact ⟨vs, ha _ h1, h3, h2.go e⟩
  | dct ds =>
    obtain ⟨vs, h1, h3, h2⟩ := k
    exact ⟨vs, ha _ h1, h3, h2.go e⟩
  | ins C ds =>
    obtain ⟨dx, vs, h1, h3, h2⟩ := k
    exact ⟨dx, vs, ha _ h1, h3, h2.go e⟩
  | tab q =>
    obtain ⟨ps, h1, h2, h3⟩ := k
    refine ⟨ps, ha _ h1, h2, fun pos cv hc => ?_⟩
    obtain ⟨c, e1, e2, e3⟩ := h3 pos cv hc
    exact ⟨c, e1, e _ _ e3 e2, e3⟩
  | sys =>
    obtain ⟨o, es, ep, h1, h2⟩ := k
    exact ⟨o, es, ep, ha _ h1, h2⟩
  | xob C fs =>
    obtain ⟨o, us, h1, h2, h3, h4⟩ := k
    exact ⟨o, us, ha _ h1, h2, h3, h4.imp id fun ⟨dd, gs, e1, e2, e3, e4, e5⟩ => ⟨dd, gs, e1, e2, e _ _ e2 e3, e4, e5.go e⟩⟩
theorem Wo.apart (w : Wo S M H) {p : Addr} {o : HO} (h : H p = none) : Wo (fun a => S a ∨ a = p) M (upd H p o) := by
  have w1 := w.new (o := o) h
  refine ⟨fun a s => ?_, fun a mo e => ?_⟩
  · rcases s with s | rfl
    · exact w1.tr a s
    · rw [upd_same]
      exact fun z => nomatch z
  · obtain ⟨s, k⟩ := w.mem a mo e
    have na : a ≠ p := fun z => w.tr a s (by rw [z]; exact h)
    have k1 : Held (fun a => S a ∨ a = p) H a mo := held_set (fun b n k z => z.elim n fun q => k (by rw [q]; exact h)) k
    exact ⟨.inl s, held_ext (Ext.of (Same.new h)) (fun u hu => (upd_ne na).trans hu) k1⟩
theorem Step.apart {p : Addr} {o : HO} (h : H p = none) : Step S M H (fun a => S a ∨ a = p) M (upd H p o) := ⟨fun b u n e => ⟨Same.new h b u e, n, ⟨fun z => z.elim id fun q => (ne_of_none e h q).elim, .inl⟩⟩⟩
/-- .. and may change -/
theorem Wo.mutable (w : Wo S M H) {p : Addr} {o : HO} {mo : MO} (h : H p = none) (k : Held (fun a => S a ∨ a = p) (upd H p o) p mo) : Wo (fun a => S a ∨ a = p) (mset M p mo) (upd H p o) := by
  have w1 := w.apart (o := o) h
  refine ⟨w1.tr, fun a mo' e => ?_⟩
  by_cases c : a = p
  · subst c
    rw [mset_same] at e
    cases e
    exact ⟨.inr rfl, k⟩
  · rw [mset_ne c] at e
    exact w1.mem a mo' e
theorem Step.mutable (w : Wo S M H) {p : Addr} {o : HO} {mo : MO} (h : H p = none) : Step S M H (fun a => S a ∨ a = p) (mset M p mo) (upd H p o) := ⟨fun b u n e => ⟨Same.new h b u e, by rw [mset_ne (ne_of_none e h)]; exact n, ⟨fun z => z.elim id fun q => (ne_of_none e h q).elim, .inl⟩⟩⟩
/-- a change -/
theorem Wo.change (w : Wo S M H) {p : Addr} {o : HO} {mo mo' : MO} (h : M p = some mo) (k : Held S (upd H p o) p mo') : Wo S (mset M p mo') (upd H p o) := by
  have sp := (w.mem p mo h).1
  have ex : Ext S H (upd H p o) := Ext.mut (Ext.refl _) sp
  refine ⟨fun a s => ?_, fun a m e => ?_⟩
  · by_cases c : a = p
    · rw [c, upd_same]
      exact fun z => nomatch z
    · rw [upd_ne c]
      exact w.tr a s
  · by_cases c : a = p
    · subst c
      rw [mset_same] at e
      cases e
      exact ⟨sp, k⟩
    · rw [mset_ne c] at e
      obtain ⟨s, q⟩ := w.mem a m e
      exact ⟨s, held_ext ex (fun u hu => (upd_ne c).trans hu) q⟩
theorem Step.change {p : Addr} {o : HO} {mo mo' : MO} (h : M p = some mo) : Step S M H S (mset M p mo') (upd H p o) := ⟨fun b u n e => by
  have c : b ≠ p := by rintro rfl; rw [h] at n; cases n
  exact ⟨(upd_ne c).trans e, (mset_ne c).trans n, Iff.rfl⟩⟩
/-- an object changes no more -/
theorem Wo.freeze (w : Wo S M H) {p : Addr} : Wo (fun a => S a ∧ a ≠ p) (mdel M p) H := by
  refine ⟨fun a s => w.tr a s.1, fun a mo e => ?_⟩
  unfold mdel at e
  split at e
  · cases e
  · rename_i c
    obtain ⟨s, k⟩ := w.mem a mo e
    exact ⟨⟨s, c⟩, held_set (fun b n _ z => n z.1) k⟩
theorem Step.freeze {p : Addr} {mo : MO} (h : M p = some mo) : Step S M H (fun a => S a ∧ a ≠ p) (mdel M p) H := ⟨fun b u n e => by
  have c : b ≠ p := by rintro rfl; rw [h] at n; cases n
  exact ⟨e, (if_neg c).trans n, ⟨fun z => z.1, fun z => ⟨z, c⟩⟩⟩⟩
theorem dtA_freeze {p : Addr} {v : List V} {d : List D} (h : DtA S H v d) : DtA (fun a => S a ∧ a ≠ p) H v d := DtA.set (fun b n _ z => n z.1) d h
/-- what has been made since is of no use -/
def Mle (M M' : Mem) : Prop := ∀ a mo, M a = some mo → M' a = some mo
theorem Wo.drop (w : Wo S M' H) (l : Mle M M') : Wo S M H := ⟨w.tr, fun a mo e => w.mem a mo (l a mo e)⟩
end
abbrev QD := D → Mem → Prop
abbrev DE := Dl → Mem → QD → Prop
abbrev DT := Dl → Mem → (Bool → Mem → Prop) → Prop
abbrev DA := Dl → Mem → (List D → Mem → Prop) → Prop
/-- what is reached: S', M', H' behind S, M, H -/
def AtE (S : Addr → Prop) (M : Mem) (H : Hp) (P : QD) (Q : VK) : Prop := ∀ d S' M' v H', P d M' → Step S M H S' M' H' → Wo S' M' H' → Dt S' H' v d → Q v H'
def AtT (S : Addr → Prop) (M : Mem) (H : Hp) (P : Bool → Mem → Prop) (Q : Bool → Hp → Prop) : Prop := ∀ b S' M' H', P b M' → Step S M H S' M' H' → Wo S' M' H' → Q b H'
def AtA (S : Addr → Prop) (M : Mem) (H : Hp) (P : List D → Mem → Prop) (Q : List V → Hp → Prop) : Prop := ∀ ds S' M' vs H', P ds M' → Step S M H S' M' H' → Wo S' M' H' → DtA S' H' vs ds → Q vs H'
class PuE (t : TE) (dt : outParam DE) : Prop where
  run : ∀ S M σ δ H P Q, Wo S M H → En S H σ δ → dt δ M P → AtE S M H P Q → t σ H Q
class PuT (t : TT) (dt : outParam DT) : Prop where
  run : ∀ S M σ δ H P Q, Wo S M H → En S H σ δ → dt δ M P → AtT S M H P Q → t σ H Q
class PuA (t : TA) (dt : outParam DA) : Prop where
  run : ∀ S M σ δ H P Q, Wo S M H → En S H σ δ → dt δ M P → AtA S M H P Q → t σ H Q
section
variable {S S' : Addr → Prop} {M M' : Mem} {H H' : Hp}
theorem AtE.go {P : QD} {Q : VK} (a : AtE S M H P Q) (t : Step S M H S' M' H') : AtE S' M' H' P Q := fun d S2 M2 v H2 p t2 w2 h => a d S2 M2 v H2 p (t.trans t2) w2 h
theorem AtT.go {P : Bool → Mem → Prop} {Q : Bool → Hp → Prop} (a : AtT S M H P Q) (t : Step S M H S' M' H') : AtT S' M' H' P Q := fun d S2 M2 H2 p t2 w2 => a d S2 M2 H2 p (t.trans t2) w2
theorem AtA.go {P : List D → Mem → Prop} {Q : List V → Hp → Prop} (a : AtA S M H P Q) (t : Step S M H S' M' H') : AtA S' M' H' P Q := fun d S2 M2 v H2 p t2 w2 h => a d S2 M2 v H2 p (t.trans t2) w2 h
end
/-- an operation on two values, over data -/
abbrev DR := D → D → Mem → QD → Prop
class OpD (r : R2) (rd : outParam DR) : Prop where
  run : ∀ S M H x y dx dy P Q, Wo S M H → Dt S H x dx → Dt S H y dy → rd dx dy M P → AtE S M H P Q → r x y H Q
abbrev DC := List D → Mem → QD → Prop
class CbD (r : List V → Hp → VK → Prop) (rd : outParam DC) : Prop where
  run : ∀ S M H vs ds P Q, Wo S M H → DtA S H vs ds → rd ds M P → AtE S M H P Q → r vs H Q
/-- a tuple of either kind -/
def isTF (x : D) (xs : List D) : Prop := match x with
  | .tup ys => ys = xs
  | .ftp ys => ys = xs
  | _ => False
theorem tf_cases {x : D} {xs : List D} (h : isTF x xs) : x = .tup xs ∨ x = .ftp xs := by
  cases x <;> first | (cases h; exact .inl rfl) | (cases h; exact .inr rfl) | exact h.elim
theorem tf_get {S : Addr → Prop} {H : Hp} {v : V} {x : D} {xs : List D} (h : Dt S H v x) (e : isTF x xs) : ∃ a vs, v = .ref a ∧ ¬ S a ∧ Rd H a (.tup vs) ∧ DtA S H vs xs := by
  rcases tf_cases e with rfl | rfl
  · cases h with
    | tup n ha hs => exact ⟨_, _, rfl, n, Or.inl ha, hs⟩
  · cases h with
    | ftp n ha hd hs => exact ⟨_, _, rfl, n, Or.inr ⟨_, ha⟩, hs⟩
def dVar (i : Nat) : DE := fun δ M P => ∃ d, δ[i]? = some (some d) ∧ P d M
def dC (d : D) : DE := fun _ M P => P d M
def dOp (r : DR) (a b : DE) : DE := fun δ M P => a δ M fun x M1 => b δ M1 fun y M2 => r x y M2 P
def dNil : DA := fun _ M P => P [] M
def dCons (a : DE) (r : DA) : DA := fun δ M P => a δ M fun x M1 => r δ M1 fun xs M2 => P (x :: xs) M2
def dTup (t : DA) : DE := fun δ M P => t δ M fun xs M1 => xs.length ≤ sizeLine ∧ P (.tup xs) M1
def dLst (t : DA) : DE := fun δ M P => t δ M fun xs M1 => xs.length ≤ sizeLine ∧ P (.lst xs) M1
/-- a list that will change -/
def tLstM (t : TA) : TE := tLst t
def dLstM (t : DA) : DE := fun δ M P => t δ M fun xs M1 => xs.length ≤ sizeLine ∧ ∀ a, M1 a = none → P (.ptr a) (mset M1 a (.lst xs))
def dIf (c : DT) (a b : DE) : DE := fun δ M P => c δ M fun k M1 => if k = true then a δ M1 P else b δ M1 P
def dB (a : DE) : DT := fun δ M P => a δ M fun x M1 => ∃ b, x = .bl b ∧ P b M1
def dAnd (a b : DT) : DT := fun δ M P => a δ M fun c M1 => if c = true then b δ M1 P else P false M1
def dOr (a b : DT) : DT := fun δ M P => a δ M fun c M1 => if c = true then P true M1 else b δ M1 P
def dNot (a : DT) : DT := fun δ M P => a δ M fun c M1 => P (!c) M1
def dAndV (a b : DE) : DE := fun δ M P => a δ M fun x M1 => ∃ c, x = .bl c ∧ if c = true then b δ M1 P else P (.bl false) M1
def dOrV (a b : DE) : DE := fun δ M P => a δ M fun x M1 => ∃ c, x = .bl c ∧ if c = true then P (.bl true) M1 else b δ M1 P
def dNotV (a : DE) : DE := fun δ M P => a δ M fun x M1 => ∃ c, x = .bl c ∧ P (.bl (!c)) M1
def dChain (r r' : DR) (a b c : DE) : DE := fun δ M P => a δ M fun x M1 => b δ M1 fun y M2 => r x y M2 fun z M3 => ∃ k, z = .bl k ∧ if k = true then c δ M3 fun w M4 => r' y w M4 P else P (.bl false) M3
def dCB (r : DC) (t : DA) : DE := fun δ M P => t δ M fun xs M1 => r xs M1 P
def dThen (a : DE) (k : D → Mem → QD → Prop) : DE := fun δ M P => a δ M fun x M1 => k x M1 P
def dStar (a : DE) (t : DA) : DA := fun δ M P => a δ M fun x M1 => ∃ xs, (isTF x xs ∨ x = .lst xs ∨ ∃ p, x = .ptr p ∧ M1 p = some (.lst xs)) ∧ t δ M1 fun ys M2 => P (xs ++ ys) M2
section
variable {ta tb tc te : TE} {da db dc : DE} {r r' : R2} {rd rd' : DR} {t : TA} {dt : DA} {c c' : TT} {dk dk' : DT}
instance pu_var {i : Nat} : PuE (tVar i) (dVar i) := ⟨fun S M σ δ H P Q w e h k => by
  obtain ⟨d, hd, p⟩ := h
  obtain ⟨v, hv, hD⟩ := e.at_ i d hd
  exact ⟨v, hv, k d S M v H p .refl w hD⟩⟩
instance pu_non : PuE (tC .non) (dC .non) := ⟨fun S M σ δ H P Q w e h k => k _ S M _ H h .refl w .non⟩
instance pu_bl {b : Bool} : PuE (tC (.bl b)) (dC (.bl b)) := ⟨fun S M σ δ H P Q w e h k => k _ S M _ H h .refl w (.bl b)⟩
instance pu_int {b : Int} : PuE (tC (.int b)) (dC (.int b)) := ⟨fun S M σ δ H P Q w e h k => k _ S M _ H h .refl w (.int b)⟩
instance pu_str {b : Str} : PuE (tC (.str b)) (dC (.str b)) := ⟨fun S M σ δ H P Q w e h k => k _ S M _ H h .refl w (.str b)⟩
instance pu_ref {b : Addr} : PuE (tC (.ref b)) (dC (.ptr b)) := ⟨fun S M σ δ H P Q w e h k => k _ S M _ H h .refl w (.ptr b)⟩
instance pu_ty {b : String} : PuE (tC (.ty b)) (dC (.ty b)) := ⟨fun S M σ δ H P Q w e h k => k _ S M _ H h .refl w (.ty b)⟩
instance pu_op [A : PuE ta da] [B : PuE tb db] [R : OpD r rd] : PuE (tOp r ta tb) (dOp rd da db) := ⟨fun S M σ δ H P Q w e h k =>
  A.run S M σ δ H _ _ w e h fun d S1 M1 v H1 p1 t1 w1 h1 =>
    B.run S1 M1 σ δ H1 _ _ w1 (e.step w t1) p1 fun d2 S2 M2 v2 H2 p2 t2 w2 h2 =>
      R.run S2 M2 H2 _ _ _ _ P Q w2 (dt_step w1 t2 _ h1) h2 p2 (k.go (t1.trans t2))⟩
instance pu_nil : PuA tNil dNil := ⟨fun S M σ δ H P Q w e h k => k _ S M _ H h .refl w .nil⟩
instance pu_cons [A : PuE ta da] [B : PuA t dt] : PuA (tCons ta t) (dCons da dt) := ⟨fun S M σ δ H P Q w e h k =>
  A.run S M σ δ H _ _ w e h fun d S1 M1 v H1 p1 t1 w1 h1 =>
    B.run S1 M1 σ δ H1 _ _ w1 (e.step w t1) p1 fun d2 S2 M2 v2 H2 p2 t2 w2 h2 =>
      k _ S2 M2 _ H2 p2 (t1.trans t2) w2 (.cons (dt_step w1 t2 _ h1) h2)⟩
instance pu_tup [A : PuA t dt] : PuE (tTup t) (dTup dt) := ⟨fun S M σ δ H P Q w e h k =>
  A.run S M σ δ H _ _ w e h fun d S1 M1 v H1 p1 t1 w1 h1 => ⟨by rw [h1.length]; exact p1.1, fun p np =>
    k _ S1 M1 _ _ p1.2 (t1.trans (.new np)) (w1.new np) (.tup (w1.ns np) upd_same (h1.sm (Same.new np)))⟩⟩
instance pu_lst [A : PuA t dt] : PuE (tLst t) (dLst dt) := ⟨fun S M σ δ H P Q w e h k =>
  A.run S M σ δ H _ _ w e h fun d S1 M1 v H1 p1 t1 w1 h1 => ⟨by rw [h1.length]; exact p1.1, fun p np =>
    k _ S1 M1 _ _ p1.2 (t1.trans (.new np)) (w1.new np) (.lst (w1.ns np) upd_same (h1.sm (Same.new np)))⟩⟩
instance pu_lstM [A : PuA t dt] : PuE (tLstM t) (dLstM dt) := ⟨fun S M σ δ H P Q w e h k =>
  A.run S M σ δ H _ _ w e h fun d S1 M1 v H1 p1 t1 w1 h1 => ⟨by rw [h1.length]; exact p1.1, fun p np =>
    k _ _ _ _ _ (p1.2 p (w1.fresh np)) (t1.trans (Step.mutable w1 np)) (w1.mutable np ⟨_, upd_same, (DtA.set (fun b n k z => z.elim n fun q => k (by rw [q]; exact np)) _ h1).sm (Same.new np)⟩) (.ptr p)⟩⟩
instance pu_if [C : PuT c dk] [A : PuE ta da] [B : PuE tb db] : PuE (tIf c ta tb) (dIf dk da db) := ⟨fun S M σ δ H P Q w e h k =>
  C.run S M σ δ H _ _ w e h fun b S1 M1 H1 p1 t1 w1 => by
    cases b with
    | true =>
      rw [if_pos rfl] at p1 ⊢
      exact A.run S1 M1 σ δ H1 P Q w1 (e.step w t1) p1 (k.go t1)
    | false =>
      rw [if_neg Bool.false_ne_true] at p1 ⊢
      exact B.run S1 M1 σ δ H1 P Q w1 (e.step w t1) p1 (k.go t1)⟩
instance pu_tB [A : PuE ta da] : PuT (tB ta) (dB da) := ⟨fun S M σ δ H P Q w e h k =>
  A.run S M σ δ H _ _ w e h fun d S1 M1 v H1 p1 t1 w1 h1 => by
    obtain ⟨b, rfl, p1⟩ := p1
    cases h1
    exact ⟨b, rfl, k b S1 M1 H1 p1 t1 w1⟩⟩
instance pu_tTest [A : PuE ta da] : PuT (tTest ta) (dB da) := ⟨fun S M σ δ H P Q w e h k =>
  A.run S M σ δ H _ _ w e h fun d S1 M1 v H1 p1 t1 w1 h1 => by
    obtain ⟨b, rfl, p1⟩ := p1
    cases h1
    exact ⟨b, rfl, k b S1 M1 H1 p1 t1 w1⟩⟩
instance pu_and [A : PuT c dk] [B : PuT c' dk'] : PuT (tAnd c c') (dAnd dk dk') := ⟨fun S M σ δ H P Q w e h k =>
  A.run S M σ δ H _ _ w e h fun b S1 M1 H1 p1 t1 w1 => by
    cases b with
    | true =>
      rw [if_pos rfl] at p1 ⊢
      exact B.run S1 M1 σ δ H1 P Q w1 (e.step w t1) p1 (k.go t1)
    | false =>
      rw [if_neg Bool.false_ne_true] at p1 ⊢
      exact k false S1 M1 H1 p1 t1 w1⟩
instance pu_or [A : PuT c dk] [B : PuT c' dk'] : PuT (tOr c c') (dOr dk dk') := ⟨fun S M σ δ H P Q w e h k =>
  A.run S M σ δ H _ _ w e h fun b S1 M1 H1 p1 t1 w1 => by
    cases b with
    | true =>
      rw [if_pos rfl] at p1 ⊢
      exact k true S1 M1 H1 p1 t1 w1
    | false =>
      rw [if_neg Bool.false_ne_true] at p1 ⊢
      exact B.run S1 M1 σ δ H1 P Q w1 (e.step w t1) p1 (k.go t1)⟩
instance pu_not [A : PuT c dk] : PuT (tNot c) (dNot dk) := ⟨fun S M σ δ H P Q w e h k =>
  A.run S M σ δ H _ _ w e h fun b S1 M1 H1 p1 t1 w1 => k _ S1 M1 H1 p1 t1 w1⟩
instance pu_andV [A : PuE ta da] [B : PuE tb db] : PuE (tAndV ta tb) (dAndV da db) := ⟨fun S M σ δ H P Q w e h k =>
  A.run S M σ δ H _ _ w e h fun d S1 M1 v H1 p1 t1 w1 h1 => by
    obtain ⟨b, rfl, p1⟩ := p1
    cases h1
    refine ⟨b, rfl, ?_⟩
    cases b with
    | true =>
      rw [if_pos rfl] at p1 ⊢
      exact B.run S1 M1 σ δ H1 P Q w1 (e.step w t1) p1 (k.go t1)
    | false =>
      rw [if_neg Bool.false_ne_true] at p1 ⊢
      exact k _ S1 M1 _ H1 p1 t1 w1 (.bl false)⟩
instance pu_orV [A : PuE ta da] [B : PuE tb db] : PuE (tOrV ta tb) (dOrV da db) := ⟨fun S M σ δ H P Q w e h k =>
  A.run S M σ δ H _ _ w e h fun d S1 M1 v H1 p1 t1 w1 h1 => by
    obtain ⟨b, rfl, p1⟩ := p1
    cases h1
    refine ⟨b, rfl, ?_⟩
    cases b with
    | true =>
      rw [if_pos rfl] at p1 ⊢
      exact k _ S1 M1 _ H1 p1 t1 w1 (.bl true)
    | false =>
      rw [if_neg Bool.false_ne_true] at p1 ⊢
      exact B.run S1 M1 σ δ H1 P Q w1 (e.step w t1) p1 (k.go t1)⟩
instance pu_notV [A : PuE ta da] : PuE (tNotV ta) (dNotV da) := ⟨fun S M σ δ H P Q w e h k =>
  A.run S M σ δ H _ _ w e h fun d S1 M1 v H1 p1 t1 w1 h1 => by
    obtain ⟨b, rfl, p1⟩ := p1
    cases h1
    exact ⟨b, rfl, k _ S1 M1 _ H1 p1 t1 w1 (.bl _)⟩⟩
instance pu_chain [A : PuE ta da] [B : PuE tb db] [C : PuE tc dc] [R : OpD r rd] [R' : OpD r' rd'] : PuE (tChain r r' ta tb tc) (dChain rd rd' da db dc) := ⟨fun S M σ δ H P Q w e h k =>
  A.run S M σ δ H _ _ w e h fun d S1 M1 v H1 p1 t1 w1 h1 =>
    B.run S1 M1 σ δ H1 _ _ w1 (e.step w t1) p1 fun d2 S2 M2 v2 H2 p2 t2 w2 h2 =>
      R.run S2 M2 H2 _ _ _ _ _ _ w2 (dt_step w1 t2 _ h1) h2 p2 fun d3 S3 M3 v3 H3 p3 t3 w3 h3 => by
        obtain ⟨b, rfl, p3⟩ := p3
        cases h3
        refine ⟨b, rfl, ?_⟩
        have t13 := (t1.trans t2).trans t3
        cases b with
        | true =>
          rw [if_pos rfl] at p3 ⊢
          exact C.run S3 M3 σ δ H3 _ _ w3 (e.step w t13) p3 fun d4 S4 M4 v4 H4 p4 t4 w4 h4 => R'.run S4 M4 H4 _ _ _ _ P Q w4 (dt_step w2 (t3.trans t4) _ h2) h4 p4 (k.go (t13.trans t4))
        | false =>
          rw [if_neg Bool.false_ne_true] at p3 ⊢
          exact k _ S3 M3 _ H3 p3 t13 w3 (.bl false)⟩
instance pu_cb {r : List V → Hp → VK → Prop} {rd : DC} [A : PuA t dt] [R : CbD r rd] : PuE (tCB r t) (dCB rd dt) := ⟨fun S M σ δ H P Q w e h k =>
  A.run S M σ δ H _ _ w e h fun d S1 M1 v H1 p1 t1 w1 h1 => R.run S1 M1 H1 _ _ P Q w1 h1 p1 (k.go t1)⟩
instance pu_star {K : PySem.W.Frag} [A : PuE te da] [B : PuA t dt] : PuA (tStar K te t) (dStar da dt) := ⟨fun S M σ δ H P Q w e h k =>
  A.run S M σ δ H _ _ w e h fun d S1 M1 v H1 p1 t1 w1 h1 => by
    obtain ⟨xs, hx, p1⟩ := p1
    have go : ∀ vs, DtA S1 H1 vs xs → t σ H1 (fun ys H2 => Q (vs ++ ys) H2) := fun vs hvs =>
      B.run S1 M1 σ δ H1 _ _ w1 (e.step w t1) p1 fun d2 S2 M2 v2 H2 p2 t2 w2 h2 => k _ S2 M2 _ H2 p2 (t1.trans t2) w2 ((dtA_step w1 t2 _ hvs).append h2)
    rcases hx with hx | rfl | ⟨p, rfl, hp⟩
    · obtain ⟨a, vs, rfl, n, ha, hs⟩ := tf_get h1 hx
      exact ⟨_, _, rfl, .inl (Or.inl ha), go _ hs⟩
    · cases h1 with
      | lst n ha hs => exact ⟨_, _, rfl, .inr (SqL.of ha), go _ hs⟩
    · cases h1
      obtain ⟨_, vs, ha, hs⟩ := w1.mem p _ hp
      exact ⟨_, _, rfl, .inr (SqL.of ha), go _ hs⟩⟩
end
end V
namespace V
open PySem PySem.Spec PyProof.Rows L2 U StX
mutual
def D.eqb : D → D → Bool
  | .non, .non => true
  | .bl a, .bl b => a == b
  | .bl a, .int j => (if a then 1 else 0) == j
  | .int i, .bl b => i == (if b then 1 else 0)
  | .int i, .int j => i == j
  | .str x, .str y => x == y
  | .lst xs, .lst ys => D.eqbs xs ys
  | .tup xs, .tup ys => D.eqbs xs ys
  | .tup xs, .ftp ys => D.eqbs xs ys
  | .ftp xs, .tup ys => D.eqbs xs ys
  | .ftp xs, .ftp ys => D.eqbs xs ys
  | _, _ => false
def D.eqbs : List D → List D → Bool
  | [], [] => true
  | x :: xs, y :: ys => D.eqb x y && D.eqbs xs ys
  | _, _ => false
end
theorem py_lst {ds : List D} {p : PyData} (h : D.py (.lst ds) = some p) : ∃ ps, D.pys ds = some ps ∧ p = .list ps := by
  rw [D.py] at h
  obtain ⟨ps, h1, h2⟩ := Option.map_eq_some_iff.mp h
  exact ⟨ps, h1, h2.symm⟩
theorem py_tup {ds : List D} {p : PyData} (h : D.py (.tup ds) = some p) : ∃ ps, D.pys ds = some ps ∧ p = .tuple ps := by
  rw [D.py] at h
  obtain ⟨ps, h1, h2⟩ := Option.map_eq_some_iff.mp h
  exact ⟨ps, h1, h2.symm⟩
theorem py_ftp {ds : List D} {p : PyData} (h : D.py (.ftp ds) = some p) : ∃ ps, D.pys ds = some ps ∧ p = .tuple ps := by
  rw [D.py] at h
  obtain ⟨ps, h1, h2⟩ := Option.map_eq_some_iff.mp h
  exact ⟨ps, h1, h2.symm⟩
theorem pys_cons {d : D} {ds : List D} {q : List PyData} (h : D.pys (d :: ds) = some q) : ∃ p ps, D.py d = some p ∧ D.pys ds = some ps ∧ q = p :: ps := by
  rw [D.pys] at h
  cases h1 : D.py d with
  | none => rw [h1] at h; cases h
  | some p =>
    cases h2 : D.pys ds with
    | none => rw [h1, h2] at h; cases h
    | some ps => rw [h1, h2] at h; cases h; exact ⟨p, ps, rfl, rfl, rfl⟩
mutual
theorem eqv_py : ∀ (d e : D) (p q : PyData), D.py d = some p → D.py e = some q → PyData.eqv p q = D.eqb d e
  | .non, e, p, q, hp, hq => by
    rw [D.py] at hp; cases hp
    cases e <;> first | (rw [D.py] at hq; cases hq; first | rfl | (rw [PyData.eqv, D.eqb] <;> simp)) | (obtain ⟨_, _, rfl⟩ := py_lst hq; rw [PyData.eqv, D.eqb] <;> simp) | (obtain ⟨_, _, rfl⟩ := py_tup hq; rw [PyData.eqv, D.eqb] <;> simp) | (obtain ⟨_, _, rfl⟩ := py_ftp hq; rw [PyData.eqv, D.eqb] <;> simp) | (rw [D.py] at hq <;> first | cases hq | simp)
  | .bl b, e, p, q, hp, hq => by
    rw [D.py] at hp; cases hp
    cases e <;> first | (rw [D.py] at hq; cases hq; first | rfl | (rw [PyData.eqv, D.eqb] <;> simp)) | (obtain ⟨_, _, rfl⟩ := py_lst hq; rw [PyData.eqv, D.eqb] <;> simp) | (obtain ⟨_, _, rfl⟩ := py_tup hq; rw [PyData.eqv, D.eqb] <;> simp) | (obtain ⟨_, _, rfl⟩ := py_ftp hq; rw [PyData.eqv, D.eqb] <;> simp) | (rw [D.py] at hq <;> first | cases hq | simp)
  | .int i, e, p, q, hp, hq => by
    rw [D.py] at hp; cases hp
    cases e <;> first | (rw [D.py] at hq; cases hq; first | rfl | (rw [PyData.eqv, D.eqb] <;> simp)) | (obtain ⟨_, _, rfl⟩ := py_lst hq; rw [PyData.eqv, D.eqb] <;> simp) | (obtain ⟨_, _, rfl⟩ := py_tup hq; rw [PyData.eqv, D.eqb] <;> simp) | (obtain ⟨_, _, rfl⟩ := py_ftp hq; rw [PyData.eqv, D.eqb] <;> simp) | (rw [D.py] at hq <;> first | cases hq | simp)
  | .str x, e, p, q, hp, hq => by
    rw [D.py] at hp; cases hp
    cases e <;> first | (rw [D.py] at hq; cases hq; first | rfl | (rw [PyData.eqv, D.eqb] <;> simp)) | (obtain ⟨_, _, rfl⟩ := py_lst hq; rw [PyData.eqv, D.eqb] <;> simp) | (obtain ⟨_, _, rfl⟩ := py_tup hq; rw [PyData.eqv, D.eqb] <;> simp) | (obtain ⟨_, _, rfl⟩ := py_ftp hq; rw [PyData.eqv, D.eqb] <;> simp) | (rw [D.py] at hq <;> first | cases hq | simp)
  | .lst ds, e, p, q, hp, hq => by
    obtain ⟨ps, h1, rfl⟩ := py_lst hp
    cases e with
    | lst es =>
      obtain ⟨qs, h2, rfl⟩ := py_lst hq
      rw [PyData.eqv, D.eqb]
      exact eqvs_py ds es ps qs h1 h2
    | tup es => obtain ⟨_, _, rfl⟩ := py_tup hq; rw [PyData.eqv, D.eqb] <;> simp
    | ftp es => obtain ⟨_, _, rfl⟩ := py_ftp hq; rw [PyData.eqv, D.eqb] <;> simp
    | _ => first | (rw [D.py] at hq; cases hq; rw [PyData.eqv, D.eqb] <;> simp) | (rw [D.py] at hq <;> first | cases hq | simp)
  | .tup ds, e, p, q, hp, hq => by
    obtain ⟨ps, h1, rfl⟩ := py_tup hp
    cases e with
    | tup es =>
      obtain ⟨qs, h2, rfl⟩ := py_tup hq
      rw [PyData.eqv, D.eqb]
      exact eqvs_py ds es ps qs h1 h2
    | lst es => obtain ⟨_, _, rfl⟩ := py_lst hq; rw [PyData.eqv, D.eqb] <;> simp
    | ftp es =>
      obtain ⟨qs, h2, rfl⟩ := py_ftp hq
      rw [PyData.eqv, D.eqb]
      exact eqvs_py ds es ps qs h1 h2
    | _ => first | (rw [D.py] at hq; cases hq; rw [PyData.eqv, D.eqb] <;> simp) | (rw [D.py] at hq <;> first | cases hq | simp)
  | .ins C ns xs, e, p, q, hp, hq => by rw [D.py] at hp <;> first | cases hp | simp
  | .ptr a, e, p, q, hp, hq => by rw [D.py] at hp <;> first | cases hp | simp
  | .ty a, e, p, q, hp, hq => by rw [D.py] at hp <;> first | cases hp | simp
  | .opq a o, e, p, q, hp, hq => by rw [D.py] at hp <;> first | cases hp | simp
  | .ftp ds, e, p, q, hp, hq => by
    obtain ⟨ps, h1, rfl⟩ := py_ftp hp
    cases e with
    | tup es =>
      obtain ⟨qs, h2, rfl⟩ := py_tup hq
      rw [PyData.eqv, D.eqb]
      exact eqvs_py ds es ps qs h1 h2
    | ftp es =>
      obtain ⟨qs, h2, rfl⟩ := py_ftp hq
      rw [PyData.eqv, D.eqb]
      exact eqvs_py ds es ps qs h1 h2
    | lst es => obtain ⟨_, _, rfl⟩ := py_lst hq; rw [PyData.eqv, D.eqb] <;> simp
    | _ => first | (rw [D.py] at hq; cases hq; rw [PyData.eqv, D.eqb] <;> simp) | (rw [D.py] at hq <;> first | cases hq | simp)
theorem eqvs_py : ∀ (ds es : List D) (ps qs : List PyData), D.pys ds = some ps → D.pys es = some qs → PyData.eqvAll ps qs = D.eqbs ds es
  | [], [], ps, qs, hp, hq => by rw [D.pys] at hp hq; cases hp; cases hq; rw [PyData.eqvAll, D.eqbs]
  | [], e :: es, ps, qs, hp, hq => by
    obtain ⟨p, qs, h1, h2, rfl⟩ := pys_cons hq
    rw [D.pys] at hp; cases hp
    rw [PyData.eqvAll, D.eqbs] <;> simp
  | d :: ds, [], ps, qs, hp, hq => by
    obtain ⟨p, qs, h1, h2, rfl⟩ := pys_cons hp
    rw [D.pys] at hq; cases hq
    rw [PyData.eqvAll, D.eqbs] <;> simp
  | d :: ds, e :: es, ps, qs, hp, hq => by
    obtain ⟨p, ps, h1, h2, rfl⟩ := pys_cons hp
    obtain ⟨q, qs, h3, h4, rfl⟩ := pys_cons hq
    rw [PyData.eqvAll, D.eqbs, eqv_py d e p q h1 h3, eqvs_py ds es ps qs h2 h4]
end
/-- data that == looks through -/
def EqOk (d : D) : Prop := ∃ p, D.py d = some p ∧ SeqAt.shaped p = true
theorem EqOk.of {W k : Nat} {d : D} (h : okP W k d) (hk : k ≤ 64) : EqOk d := by
  obtain ⟨p, e, o⟩ := h
  exact ⟨p, e, o.shaped hk⟩
/-- what a name of a changing list stands for -/
def vw (M : Mem) (d : D) : D := match d with
  | .ptr a => match M a with
    | some (.lst ds) => .lst ds
    | _ => .ptr a
  | d => d
section
variable {S S' : Addr → Prop} {M M' : Mem} {H H' : Hp} {K : PySem.W.Frag}
theorem dt_vw (w : Wo S M H) {v : V} {d : D} {p : PyData} (h : Dt S H v d) (e : D.py (vw M d) = some p) : Dp K H v p := by
  cases d with
  | ptr a =>
    unfold vw at e
    cases hm : M a with
    | none => simp only [hm] at e; rw [D.py] at e <;> first | cases e | simp
    | some mo =>
      cases mo with
      | lst ds =>
        simp only [hm] at e
        cases h
        obtain ⟨_, vs, h1, h2⟩ := w.mem a _ hm
        obtain ⟨ps, e1, rfl⟩ := py_lst e
        exact .lst (SqL.of h1) (DtA.dp ds h2 e1)
      | dic ds => simp only [hm] at e; rw [D.py] at e <;> first | cases e | simp
      | dct ds => simp only [hm] at e; rw [D.py] at e <;> first | cases e | simp
      | ins C ds => simp only [hm] at e; rw [D.py] at e <;> first | cases e | simp
      | tab q => simp only [hm] at e; rw [D.py] at e <;> first | cases e | simp
      | sys => simp only [hm] at e; rw [D.py] at e <;> first | cases e | simp
      | xob C fs => simp only [hm] at e; rw [D.py] at e <;> first | cases e | simp
  | _ => exact Dt.dp _ h e
end
/-- == : flat values as they are, data by its contents -/
def rEqA (K : PySem.W.Frag) : R2 := fun x y H Q => (scal x y = true ∧ Q (.bl (decide (x = y))) H) ∨ rEqD K x y H Q
def rNeA (K : PySem.W.Frag) : R2 := fun x y H Q => (scal x y = true ∧ Q (.bl (!decide (x = y))) H) ∨ rNeD K x y H Q
section
variable {X : Cx} {K : PySem.W.Frag}
theorem op_eqA (h : X.K = K) (hu : X.A.units + 64 < cLine) : OpR X (compareOp .Eq) (rEqA K) := by
  subst h
  intro pins s σ H x y v u Q I rx ry h
  rcases h with h | h
  · exact op_eq pins s σ H _ _ v u Q I rx ry h
  · exact op_eqD hu pins s σ H _ _ v u Q I rx ry h
theorem op_neA (h : X.K = K) (hu : X.A.units + 64 < cLine) : OpR X (compareOp .NotEq) (rNeA K) := by
  subst h
  intro pins s σ H x y v u Q I rx ry h
  rcases h with h | h
  · exact op_ne pins s σ H _ _ v u Q I rx ry h
  · exact op_neD hu pins s σ H _ _ v u Q I rx ry h
end
def eqR (M : Mem) (x y : D) (P : Bool → Prop) : Prop := match x, y with
  | .int i, .int j => P (decide (i = j))
  | .str a, .str b => P (decide (a = b))
  | .bl a, .bl b => P (decide (a = b))
  | .non, .non => P true
  | .non, .str _ => P false
  | .str _, .non => P false
  | .non, .int _ => P false
  | .int _, .non => P false
  | .int _, .str _ => P false
  | .str _, .int _ => P false
  | x, y => EqOk (vw M x) ∧ EqOk (vw M y) ∧ P (D.eqb (vw M x) (vw M y))
theorem eqR_go {S : Addr → Prop} {M : Mem} {H : Hp} {K : PySem.W.Frag} (w : Wo S M H) {x y : V} {dx dy : D} {P : Bool → Prop} (hx : Dt S H x dx) (hy : Dt S H y dy) (h : eqR M dx dy P) :
    (∃ b, scal x y = true ∧ decide (x = y) = b ∧ P b) ∨ ∃ p q, Dp K H x p ∧ Dp K H y q ∧ SeqAt.shaped p = true ∧ SeqAt.shaped q = true ∧ P (PyData.eqv p q) := by
  have gen : EqOk (vw M dx) ∧ EqOk (vw M dy) ∧ P (D.eqb (vw M dx) (vw M dy)) → ∃ p q, Dp K H x p ∧ Dp K H y q ∧ SeqAt.shaped p = true ∧ SeqAt.shaped q = true ∧ P (PyData.eqv p q) := by
    rintro ⟨⟨p, e1, s1⟩, ⟨q, e2, s2⟩, hp⟩
    exact ⟨p, q, dt_vw w hx e1, dt_vw w hy e2, s1, s2, by rw [eqv_py _ _ p q e1 e2]; exact hp⟩
  unfold eqR at h
  split at h
  · cases hx; cases hy; exact .inl ⟨_, rfl, by simp, h⟩
  · cases hx; cases hy; exact .inl ⟨_, rfl, by simp, h⟩
  · cases hx; cases hy; exact .inl ⟨_, rfl, by simp, h⟩
  · cases hx; cases hy; exact .inl ⟨_, rfl, by simp, h⟩
  · cases hx; cases hy; exact .inl ⟨_, rfl, by simp, h⟩
  · cases hx; cases hy; exact .inl ⟨_, rfl, by simp, h⟩
  · cases hx; cases hy; exact .inl ⟨_, rfl, by simp, h⟩
  · cases hx; cases hy; exact .inl ⟨_, rfl, by simp, h⟩
  · cases hx; cases hy; exact .inl ⟨_, rfl, by simp, h⟩
  · cases hx; cases hy; exact .inl ⟨_, rfl, by simp, h⟩
  · exact .inr (gen h)
def rEq1 : DR := fun x y M P => eqR M x y fun b => P (.bl b) M
def rNe1 : DR := fun x y M P => eqR M x y fun b => P (.bl (!b)) M
instance op_eq1 {K : PySem.W.Frag} : OpD (rEqA K) rEq1 := ⟨fun S M H x y dx dy P Q w hx hy h k => by
  rcases eqR_go (K := K) w hx hy h with ⟨b, s, e, p⟩ | ⟨p, q, h1, h2, h3, h4, h5⟩
  · exact .inl ⟨s, by rw [e]; exact k _ S M _ H p .refl w (.bl _)⟩
  · exact .inr ⟨p, q, h1, h2, h3, h4, k _ S M _ H h5 .refl w (.bl _)⟩⟩
instance op_ne1 {K : PySem.W.Frag} : OpD (rNeA K) rNe1 := ⟨fun S M H x y dx dy P Q w hx hy h k => by
  rcases eqR_go (K := K) w hx hy h with ⟨b, s, e, p⟩ | ⟨p, q, h1, h2, h3, h4, h5⟩
  · exact .inl ⟨s, by rw [e]; exact k _ S M _ H p .refl w (.bl _)⟩
  · exact .inr ⟨p, q, h1, h2, h3, h4, k _ S M _ H h5 .refl w (.bl _)⟩⟩
/-- what stands in a list, a tuple -/
def isSq (M : Mem) (d : D) (xs : List D) : Prop := d = .lst xs ∨ isTF d xs ∨ ∃ a, d = .ptr a ∧ M a = some (.lst xs)
def isLs (M : Mem) (d : D) (xs : List D) : Prop := d = .lst xs ∨ ∃ a, d = .ptr a ∧ M a = some (.lst xs)
section
variable {S : Addr → Prop} {M : Mem} {H : Hp} {K : PySem.W.Frag} {v : V} {d : D} {xs : List D}
theorem sq_get (w : Wo S M H) (h : Dt S H v d) (e : isSq M d xs) : ∃ a vs, v = .ref a ∧ (H a = some (.lst vs) ∨ Rd H a (.tup vs)) ∧ DtA S H vs xs := by
  rcases e with rfl | e | ⟨a, rfl, e⟩
  · cases h with
    | lst n ha hs => exact ⟨_, _, rfl, .inl ha, hs⟩
  · obtain ⟨a, vs, rfl, n, ha, hs⟩ := tf_get h e
    exact ⟨_, _, rfl, .inr ha, hs⟩
  · cases h
    obtain ⟨_, vs, h1, h2⟩ := w.mem a _ e
    exact ⟨a, vs, rfl, .inl h1, h2⟩
theorem ls_get (w : Wo S M H) (h : Dt S H v d) (e : isLs M d xs) : ∃ a vs, v = .ref a ∧ H a = some (.lst vs) ∧ DtA S H vs xs := by
  rcases e with rfl | ⟨a, rfl, e⟩
  · cases h with
    | lst n ha hs => exact ⟨_, _, rfl, ha, hs⟩
  · cases h
    obtain ⟨_, vs, h1, h2⟩ := w.mem a _ e
    exact ⟨a, vs, rfl, h1, h2⟩
end
def rAdd1 : DR := fun x y M P => match x, y with
  | .int i, .int j => P (.int (i + j)) M
  | .str a, .str b => a.length + b.length ≤ sizeLine ∧ P (.str (a ++ b)) M
  | x, y => ∃ xs ys, isLs M x xs ∧ isLs M y ys ∧ xs.length + ys.length ≤ sizeLine ∧ P (.lst (xs ++ ys)) M
theorem rAddU_l {a b : Addr} {xs ys : List V} {H : Hp} {Q : VK} (h1 : H a = some (.lst xs)) (h2 : H b = some (.lst ys)) (hl : xs.length + ys.length ≤ sizeLine) (q : ∀ r, H r = none → Q (.ref r) (upd H r (.lst (xs ++ ys)))) : rAddU (.ref a) (.ref b) H Q := ⟨xs, ys, h1, h2, hl, q⟩
instance op_add1 : OpD rAddU rAdd1 := ⟨fun S M H x y dx dy P Q w hx hy h k => by
  unfold rAdd1 at h
  split at h
  · cases hx; cases hy; exact k _ S M _ H h .refl w (.int _)
  · cases hx; cases hy; exact ⟨h.1, k _ S M _ H h.2 .refl w (.str _)⟩
  · obtain ⟨xs, ys, h1, h2, hl, p⟩ := h
    obtain ⟨a, vs, rfl, ha, hs⟩ := ls_get w hx h1
    obtain ⟨b, ws, rfl, hb, ht⟩ := ls_get w hy h2
    exact rAddU_l ha hb (by rw [hs.length, ht.length]; exact hl) fun r nr => k _ S M _ _ p (.new nr) (w.new nr) (.lst (w.ns nr) upd_same ((hs.append ht).sm (Same.new nr)))⟩
/-- a value made of two numbers -/
class VD (f : Int → Int → V) (g : outParam (Int → Int → D)) : Prop where
  run : ∀ S H i j, Dt S H (f i j) (g i j)
instance vd_int {f : Int → Int → Int} : VD (fun i j => .int (f i j)) (fun i j => .int (f i j)) := ⟨fun _ _ _ _ => .int _⟩
instance vd_bl {f : Int → Int → Bool} : VD (fun i j => .bl (f i j)) (fun i j => .bl (f i j)) := ⟨fun _ _ _ _ => .bl _⟩
def rI1 (f : Int → Int → D) : DR := fun x y M P => ∃ i j, x = .int i ∧ y = .int j ∧ P (f i j) M
def rIC1 (C : Int → Int → Prop) (f : Int → Int → D) : DR := fun x y M P => ∃ i j, x = .int i ∧ y = .int j ∧ C i j ∧ P (f i j) M
instance op_I1 {f : Int → Int → V} {g : Int → Int → D} [F : VD f g] : OpD (rI0 f) (V.rI1 g) := ⟨fun S M H x y dx dy P Q w hx hy h k => by
  obtain ⟨i, j, rfl, rfl, p⟩ := h
  cases hx; cases hy
  exact ⟨i, j, rfl, rfl, k _ S M _ H p .refl w (F.run S H i j)⟩⟩
instance op_IC1 {C : Int → Int → Prop} {f : Int → Int → V} {g : Int → Int → D} [F : VD f g] : OpD (rI C f) (rIC1 C g) := ⟨fun S M H x y dx dy P Q w hx hy h k => by
  obtain ⟨i, j, rfl, rfl, c, p⟩ := h
  cases hx; cases hy
  exact ⟨i, j, rfl, rfl, c, k _ S M _ H p .refl w (F.run S H i j)⟩⟩
def rLt1 : DR := fun x y M P => match x, y with
  | .int i, .int j => P (.bl (decide (i < j))) M
  | .str i, .str j => P (.bl (decide (i.cps.toList < j.cps.toList))) M
  | _, _ => False
instance op_lt1 : OpD rLtU rLt1 := ⟨fun S M H x y dx dy P Q w hx hy h k => by
  unfold rLt1 at h
  split at h
  · cases hx; cases hy; exact k _ S M _ H h .refl w (.bl _)
  · cases hx; cases hy; exact k _ S M _ H h .refl w (.bl _)
  · exact h.elim⟩
def isNon : D → Bool
  | .non => true
  | _ => false
theorem isNon_V {S : Addr → Prop} {H : Hp} {x : V} {d : D} (h : Dt S H x d) : decide (x = V.non) = isNon d := by cases h <;> simp [isNon]
def rIsN1 : DR := fun x y M P => y = .non ∧ P (.bl (isNon x)) M
def rNotN1 : DR := fun x y M P => y = .non ∧ P (.bl (!isNon x)) M
instance op_isN1' : OpD rIsN rIsN1 := ⟨fun S M H x y dx dy P Q w hx hy h k => by
  obtain ⟨rfl, p⟩ := h
  cases hy
  refine ⟨rfl, ?_⟩
  rw [isNon_V hx]
  exact k _ S M _ H p .refl w (.bl _)⟩
instance op_notN1' : OpD rNotN rNotN1 := ⟨fun S M H x y dx dy P Q w hx hy h k => by
  obtain ⟨rfl, p⟩ := h
  cases hy
  refine ⟨rfl, ?_⟩
  rw [isNon_V hx]
  exact k _ S M _ H p .refl w (.bl _)⟩
def rIsB1 : DR := fun x y M P => ∃ a b, x = .bl a ∧ y = .bl b ∧ P (.bl (decide (a = b))) M
def rNotB1 : DR := fun x y M P => ∃ a b, x = .bl a ∧ y = .bl b ∧ P (.bl (!decide (a = b))) M
instance op_isB1 : OpD rIsB rIsB1 := ⟨fun S M H x y dx dy P Q w hx hy h k => by
  obtain ⟨a, b, rfl, rfl, p⟩ := h
  cases hx; cases hy
  exact ⟨a, b, rfl, rfl, k _ S M _ H p .refl w (.bl _)⟩⟩
instance op_notB1 : OpD rNotB rNotB1 := ⟨fun S M H x y dx dy P Q w hx hy h k => by
  obtain ⟨a, b, rfl, rfl, p⟩ := h
  cases hx; cases hy
  exact ⟨a, b, rfl, rfl, k _ S M _ H p .refl w (.bl _)⟩⟩
def flatD : D → Bool
  | .non => true
  | .bl _ => true
  | .int _ => true
  | .str _ => true
  | _ => false
section
variable {S : Addr → Prop} {H : Hp}
theorem flat_V {v : V} {d : D} (h : Dt S H v d) (f : flatD d = true) : flatV v = true := by
  cases h <;> first | rfl | cases f
theorem flats_V : ∀ {vs : List V} {ds : List D}, DtA S H vs ds → ds.all flatD = true → vs.all flatV = true
  | _, _, .nil, _ => rfl
  | _, _, .cons h t, f => by
    rw [List.all_cons, Bool.and_eq_true] at f
    rw [List.all_cons, flat_V h f.1, flats_V t f.2]
    rfl
theorem eqV_D {v u : V} {d e : D} (h : Dt S H v d) (k : Dt S H u e) (f : flatD d = true) (g : flatD e = true) : eqV v u = D.eqb d e := by
  cases h <;> first | (cases f; done) | (cases k <;> first | (cases g; done) | (first | rfl | (rw [D.eqb] <;> first | rfl | simp [eqV])))
theorem inV_D {v : V} {d : D} (h : Dt S H v d) (f : flatD d = true) : ∀ {vs : List V} {ds : List D}, DtA S H vs ds → ds.all flatD = true → inV v vs = ds.any fun e => D.eqb e d
  | _, _, .nil, _ => rfl
  | _, _, .cons h1 t, g => by
    rw [List.all_cons, Bool.and_eq_true] at g
    show (eqV _ v || inV v _) = _
    rw [List.any_cons, inV_D h f t g.2, eqV_D h1 h g.1 f]
end
def inR (M : Mem) (x y : D) (P : Bool → Prop) : Prop := match y with
  | .str z => ∃ c, x = .str (one c) ∧ P (decide (c ∈ cd z))
  | y => ∃ ys, isSq M y ys ∧ flatD x = true ∧ ys.all flatD = true ∧ P (ys.any fun e => D.eqb e x)
def rIn1 : DR := fun x y M P => inR M x y fun b => P (.bl b) M
def rNin1 : DR := fun x y M P => inR M x y fun b => P (.bl (!b)) M
theorem inR_go {S : Addr → Prop} {M : Mem} {H : Hp} {K : PySem.W.Frag} (w : Wo S M H) {x y : V} {dx dy : D} {P : Bool → Prop} (hx : Dt S H x dx) (hy : Dt S H y dy) (h : inR M dx dy P) :
    (∃ z c, y = .str z ∧ x = .str ⟨#[c]⟩ ∧ P (decide (c ∈ z.cps.toList))) ∨ ∃ p xs, y = .ref p ∧ (SqL K H p xs ∨ SqT K H p xs) ∧ flatV x = true ∧ xs.all flatV = true ∧ P (inV x xs) := by
  unfold inR at h
  split at h
  · rename_i z
    obtain ⟨c, rfl, p⟩ := h
    cases hx; cases hy
    exact .inl ⟨z, c, rfl, rfl, p⟩
  · obtain ⟨ys, hs, f, g, p⟩ := h
    obtain ⟨a, vs, rfl, ha, hv⟩ := sq_get w hy hs
    refine .inr ⟨a, vs, rfl, ?_, flat_V hx f, flats_V hv g, by rw [inV_D hx f hv g]; exact p⟩
    rcases ha with ha | ha
    · exact .inl (SqL.of ha)
    · exact .inr (Or.inl ha)
instance op_in1 {K : PySem.W.Frag} : OpD (rInU K) rIn1 := ⟨fun S M H x y dx dy P Q w hx hy h k => by
  rcases inR_go (K := K) w hx hy h with ⟨z, c, rfl, rfl, p⟩ | ⟨a, xs, rfl, h1, h2, h3, p⟩
  · exact ⟨c, rfl, k _ S M _ H p .refl w (.bl _)⟩
  · exact ⟨xs, h1, h2, h3, k _ S M _ H p .refl w (.bl _)⟩⟩
instance op_nin1 {K : PySem.W.Frag} : OpD (rNinU K) rNin1 := ⟨fun S M H x y dx dy P Q w hx hy h k => by
  rcases inR_go (K := K) w hx hy h with ⟨z, c, rfl, rfl, p⟩ | ⟨a, xs, rfl, h1, h2, h3, p⟩
  · exact ⟨c, rfl, k _ S M _ H p .refl w (.bl _)⟩
  · exact ⟨xs, h1, h2, h3, k _ S M _ H p .refl w (.bl _)⟩⟩
/-- in a tuple of texts that the module keeps -/
def rInKT (l : List Str) (a : Addr) (neg : Bool) : R2 := fun x y H Q => y = .ref a ∧ ∃ z, x = .str z ∧ Q (.bl (decide (z ∈ l) != neg)) H
theorem inV_strs (x : Str) : ∀ l : List Str, inV (.str x) (l.map V.str) = decide (x ∈ l)
  | [] => rfl
  | y :: l => by
    show (eqV (.str y) (.str x) || inV (.str x) (l.map V.str)) = _
    rw [inV_strs x l]
    show ((y == x) || decide (x ∈ l)) = _
    rw [Bool.eq_iff_iff]
    simp only [Bool.or_eq_true, beq_iff_eq, decide_eq_true_eq, List.mem_cons]
    exact ⟨fun h => h.elim (fun h => .inl h.symm) .inr, fun h => h.elim (fun h => .inl h.symm) .inr⟩
theorem flatV_strs (l : List Str) : (l.map V.str).all flatV = true := by
  rw [List.all_eq_true]
  intro x h
  obtain ⟨y, _, rfl⟩ := List.mem_map.mp h
  rfl
theorem op_ninKT {X : Cx} {l : List Str} {a : Addr} (h : ∀ H : Hp, SqT X.K H a (l.map V.str)) : OpR X (compareOp .NotIn) (rInKT l a true) := by
  intro pins s σ H x y v u Q I rx ry q
  obtain ⟨rfl, z, rfl, q⟩ := q
  refine op_notIn_seq pins s σ H _ _ v u Q I rx ry ⟨a, _, rfl, .inr (h H), rfl, flatV_strs l, ?_⟩
  rw [inV_strs]
  simpa using q
def rInKT1 (l : List Str) (a : Addr) (neg : Bool) : DR := fun x y M P => y = .ptr a ∧ ∃ z, x = .str z ∧ P (.bl (decide (z ∈ l) != neg)) M
instance op_inKT1 {l : List Str} {a : Addr} {neg : Bool} : OpD (rInKT l a neg) (rInKT1 l a neg) := ⟨fun S M H x y dx dy P Q w hx hy h k => by
  obtain ⟨rfl, z, rfl, p⟩ := h
  cases hx; cases hy
  exact ⟨rfl, z, rfl, k _ S M _ H p .refl w (.bl _)⟩⟩
def rIx1 : DR := fun x y M P => match x, y with
  | .str z, .int i => ∃ c, z.length ≤ sizeLine ∧ atI (cd z) i = some c ∧ P (.str (one c)) M
  | x, .int i => ∃ xs d, isSq M x xs ∧ atI xs i = some d ∧ P d M
  | _, _ => False
theorem at_dt {S : Addr → Prop} {H : Hp} {vs : List V} {ds : List D} (h : DtA S H vs ds) {i : Int} {d : D} (e : atI ds i = some d) : ∃ v, atI vs i = some v ∧ Dt S H v d := by
  unfold atI at e ⊢
  rw [h.length]
  cases hi : ixN ds.length i with
  | none => rw [hi] at e; cases e
  | some j =>
    rw [hi] at e
    exact h.get e
instance op_ix1 {K : PySem.W.Frag} : OpD (rIxU K) rIx1 := ⟨fun S M H x y dx dy P Q w hx hy h k => by
  unfold rIx1 at h
  split at h
  · obtain ⟨c, h1, h2, p⟩ := h
    cases hx; cases hy
    exact ⟨c, h1, h2, k _ S M _ H p .refl w (.str _)⟩
  · obtain ⟨xs, d, h1, h2, p⟩ := h
    cases hy
    obtain ⟨a, vs, rfl, ha, hv⟩ := sq_get w hx h1
    obtain ⟨v, e, hd⟩ := at_dt hv h2
    refine ⟨vs, v, ?_, e, k _ S M _ H p .refl w hd⟩
    rcases ha with ha | ha
    · exact .inl (SqL.of ha)
    · exact .inr (Or.inl ha)
  · exact h.elim⟩
theorem dtA_rep {S : Addr → Prop} {H : Hp} {vs : List V} {ds : List D} (h : DtA S H vs ds) : ∀ n, DtA S H (List.replicate n vs).flatten (List.replicate n ds).flatten
  | 0 => .nil
  | n + 1 => by
    rw [List.replicate_succ, List.replicate_succ, List.flatten_cons, List.flatten_cons]
    exact h.append (dtA_rep h n)
def rRep1 : DR := fun x y M P => ∃ xs k, isLs M x xs ∧ y = .int k ∧ -(2 ^ 63) ≤ k ∧ k < 2 ^ 63 ∧ xs.length * k.toNat ≤ sizeLine ∧ P (.lst (List.replicate k.toNat xs).flatten) M
instance op_rep1 : OpD rRep rRep1 := ⟨fun S M H x y dx dy P Q w hx hy h k => by
  obtain ⟨xs, j, h1, rfl, h2, h3, h4, p⟩ := h
  cases hy
  obtain ⟨a, vs, rfl, ha, hv⟩ := ls_get w hx h1
  exact ⟨a, j, vs, rfl, rfl, ha, h2, h3, by rw [hv.length]; exact h4, fun q nq => k _ S M _ _ p (.new nq) (w.new nq) (.lst (w.ns nq) upd_same ((dtA_rep hv _).sm (Same.new nq)))⟩⟩
end V
namespace V
open PySem PySem.Spec PyProof.Rows L2 U StX
def cutG {α : Type} (xs : List α) (lo hi : Option Int) : List α := (xs.drop (HT.sIx xs.length 0 lo)).take (HT.sIx xs.length xs.length hi - HT.sIx xs.length 0 lo)
def rSlZ (K : PySem.W.Frag) : V → Option Int → Option Int → Hp → VK → Prop := fun x lo hi H Q => match x with
  | .str z => z.length ≤ sizeLine ∧ Q (.str (cutS z lo hi)) H
  | x => rSlA K x lo hi H Q ∨ rSlL K x lo hi H Q
theorem sl_Z {X : Cx} {K : PySem.W.Frag} (h : X.K = K) : SlR X (rSlZ K) := by
  subst h
  intro pins s σ H x v vl vu lo hi sl Q I rx hs pl pu h
  cases x with
  | str z => exact sl_str pins s σ H _ v vl vu lo hi sl Q I rx hs pl pu ⟨z, rfl, h.1, h.2⟩
  | _ =>
    rcases h with h | h
    · exact sl_tupA pins s σ H _ v vl vu lo hi sl Q I rx hs pl pu h
    · exact sl_list pins s σ H _ v vl vu lo hi sl Q I rx hs pl pu h
abbrev DO := Dl → Mem → (Option Int → Mem → Prop) → Prop
class PuO (t : TO) (dt : outParam DO) : Prop where
  run : ∀ S M σ δ H (P : Option Int → Mem → Prop) (Q : Option Int → Hp → Prop), Wo S M H → En S H σ δ → dt δ M P → (∀ o S' M' H', P o M' → Step S M H S' M' H' → Wo S' M' H' → Q o H') → t σ H Q
def dNoPart : DO := fun _ M P => P none M
def dPart (a : DE) : DO := fun δ M P => a δ M fun x M1 => ∃ i, x = .int i ∧ P (some i) M1
instance pu_noPart : PuO tNoPart dNoPart := ⟨fun S M σ δ H P Q w e h k => k none S M H h .refl w⟩
instance pu_part {ta : TE} {da : DE} [A : PuE ta da] : PuO (tPart ta) (dPart da) := ⟨fun S M σ δ H P Q w e h k =>
  A.run S M σ δ H _ _ w e h fun d S1 M1 v H1 p1 t1 w1 h1 => by
    obtain ⟨i, rfl, p1⟩ := p1
    cases h1
    exact ⟨i, rfl, k _ S1 M1 H1 p1 t1 w1⟩⟩
def rSl1 (x : D) (lo hi : Option Int) (M : Mem) (P : QD) : Prop := match x with
  | .str z => z.length ≤ sizeLine ∧ P (.str (cutS z lo hi)) M
  | .tup xs => P (.tup (cutG xs lo hi)) M
  | x => ∃ xs, isLs M x xs ∧ P (.lst (cutG xs lo hi)) M
def dSl (a : DE) (l h : DO) : DE := fun δ M P => a δ M fun x M1 => l δ M1 fun lo M2 => h δ M2 fun hi M3 => rSl1 x lo hi M3 P
theorem dtA_cut {S : Addr → Prop} {H : Hp} {vs : List V} {ds : List D} (h : DtA S H vs ds) (lo hi : Option Int) : DtA S H (cutV vs lo hi) (cutG ds lo hi) := by
  unfold cutV cutG
  rw [h.length]
  exact (h.drop _).take _
theorem cutG_whole {α : Type} {xs : List α} {lo hi : Option Int} (h : HT.sIx xs.length 0 lo = 0 ∧ HT.sIx xs.length xs.length hi = xs.length) : cutG xs lo hi = xs := by
  unfold cutG
  rw [h.1, h.2, List.drop_zero, Nat.sub_zero, List.take_length]
instance pu_sl {K : PySem.W.Frag} {ta : TE} {tl th : TO} {da : DE} {dl dh : DO} [A : PuE ta da] [B : PuO tl dl] [C : PuO th dh] : PuE (tSl (rSlZ K) ta tl th) (dSl da dl dh) := ⟨fun S M σ δ H P Q w e h k =>
  A.run S M σ δ H _ _ w e h fun d S1 M1 v H1 p1 t1 w1 h1 =>
    B.run S1 M1 σ δ H1 _ _ w1 (e.step w t1) p1 fun lo S2 M2 H2 p2 t2 w2 =>
      C.run S2 M2 σ δ H2 _ _ w2 (e.step w (t1.trans t2)) p2 fun hi S3 M3 H3 p3 t3 w3 => by
        have h3 := dt_step w1 (t2.trans t3) _ h1
        have k3 := k.go ((t1.trans t2).trans t3)
        unfold rSl1 at p3
        split at p3
        · cases h3
          exact ⟨p3.1, k3 _ S3 M3 _ H3 p3.2 .refl w3 (.str _)⟩
        · rename_i xs
          cases h3 with
          | @tup a vs _ n ha hs =>
            have el := hs.length
            refine .inl ⟨a, vs, rfl, SqT.of ha, fun c => ?_, fun c p np => ?_⟩
            · rw [el] at c
              rw [cutG_whole c] at p3
              exact k3 _ S3 M3 _ H3 p3 .refl w3 (.tup n ha hs)
            · exact k3 _ S3 M3 _ _ p3 (.new np) (w3.new np) (.tup (w3.ns np) upd_same ((dtA_cut hs lo hi).sm (Same.new np)))
        · obtain ⟨xs, h4, p3⟩ := p3
          obtain ⟨a, vs, rfl, ha, hs⟩ := ls_get w3 h3 h4
          exact .inr ⟨a, vs, rfl, SqL.of ha, fun p np => k3 _ S3 M3 _ _ p3 (.new np) (w3.new np) (.lst (w3.ns np) upd_same ((dtA_cut hs lo hi).sm (Same.new np)))⟩⟩
def dRevT (a : DE) : DE := fun δ M P => a δ M fun x M1 => ∃ xs, x = .tup xs ∧ P (.tup xs.reverse) M1
def dRevL (a : DE) : DE := fun δ M P => a δ M fun x M1 => ∃ xs, isLs M1 x xs ∧ P (.lst xs.reverse) M1
instance pu_revL {K : PySem.W.Frag} {ta : TE} {da : DE} [A : PuE ta da] : PuE (tRevL K ta) (dRevL da) := ⟨fun S M σ δ H P Q w e h k =>
  A.run S M σ δ H _ _ w e h fun d S1 M1 v H1 p1 t1 w1 h1 => by
    obtain ⟨xs, h2, p1⟩ := p1
    obtain ⟨a, vs, rfl, ha, hs⟩ := ls_get w1 h1 h2
    exact ⟨a, vs, rfl, SqL.of ha, fun p np => k _ S1 M1 _ _ p1 (t1.trans (.new np)) (w1.new np) (.lst (w1.ns np) upd_same (hs.reverse.sm (Same.new np)))⟩⟩
def lkD : List Str → List D → Str → Option D
  | n :: ns, d :: ds, f => if f = n then some d else lkD ns ds f
  | _, _, _ => none
theorem lk_get {S : Addr → Prop} {H : Hp} {f : Str} {d : D} : ∀ {fs : List (Str × V)} {ns : List Str} {ds : List D}, fs.map (·.1) = ns → DtA S H (fs.map (·.2)) ds → lkD ns ds f = some d → ∃ v, fs.lookup f = some v ∧ Dt S H v d
  | [], [], [], _, _, h => by cases h
  | (n, v) :: fs, m :: ns, d' :: ds, e, .cons h1 t, h => by
    rw [List.map_cons, List.cons.injEq] at e
    obtain ⟨rfl, e⟩ := e
    unfold lkD at h
    by_cases c : f = n
    · rw [if_pos c] at h
      cases h
      refine ⟨v, ?_, h1⟩
      subst c
      simp
    · rw [if_neg c] at h
      obtain ⟨u, h2, h3⟩ := lk_get e t h
      refine ⟨u, ?_, h3⟩
      rw [List.lookup_cons]
      have : (f == n) = false := by simpa using c
      simp only [this]
      exact h2
def putD (f : Str) (d : D) : List (Str × D) → List (Str × D)
  | [] => [(f, d)]
  | (n, e) :: r => if n = f then (n, d) :: r else (n, e) :: putD f d r
/-- an instance, still or changing -/
def isIn (M : Mem) (x : D) (C : Addr) (ns : List Str) (ds : List D) : Prop := x = .ins C ns ds ∨ ∃ a fs, x = .ptr a ∧ M a = some (.ins C fs) ∧ ns = fs.map (·.1) ∧ ds = fs.map (·.2)
theorem in_get {S : Addr → Prop} {M : Mem} {H : Hp} (w : Wo S M H) {v : V} {x : D} {C : Addr} {ns : List Str} {ds : List D} (h : Dt S H v x) (e : isIn M x C ns ds) : ∃ a dx fs, v = .ref a ∧ H a = some (.ins C dx fs) ∧ fs.map (·.1) = ns ∧ DtA S H (fs.map (·.2)) ds := by
  rcases e with rfl | ⟨a, fs, rfl, e, rfl, rfl⟩
  · cases h with
    | ins n ha hn hs => exact ⟨_, _, _, rfl, ha, hn, hs⟩
  · cases h
    obtain ⟨_, dx, gs, h1, h2, h3⟩ := w.mem a _ e
    exact ⟨a, dx, gs, rfl, h1, h2, h3⟩
theorem lk_of {f : Str} {d : D} : ∀ {ns : List Str} {ds : List D} {k : Nat}, ns.Nodup → ns[k]? = some f → ds[k]? = some d → lkD ns ds f = some d
  | [], _, k, _, h, _ => by simp at h
  | n :: ns, [], k, _, _, h => by simp at h
  | n :: ns, e :: ds, 0, nd, h, h2 => by
    simp at h h2
    subst h
    subst h2
    unfold lkD
    rw [if_pos rfl]
  | n :: ns, e :: ds, k + 1, nd, h, h2 => by
    rw [List.getElem?_cons_succ] at h h2
    have hn := List.nodup_cons.mp nd
    have : f ≠ n := fun z => hn.1 (by rw [← z]; exact List.mem_of_getElem? h)
    unfold lkD
    rw [if_neg this]
    exact lk_of hn.2 h h2
def rFld1 (K : PySem.W.Frag) (f : Str) (x : D) (M : Mem) (P : QD) : Prop := ∃ C ns ds d, isIn M x C ns ds ∧ Cls K C ∧ NoAttr K C f ∧ (∃ k : Nat, ns.Nodup ∧ ns[k]? = some f ∧ ds[k]? = some d) ∧ P d M
def dFld (K : PySem.W.Frag) (a : DE) (f : Str) : DE := fun δ M P => a δ M fun x M1 => rFld1 K f x M1 P
instance pu_fld {K : PySem.W.Frag} {ta : TE} {da : DE} {f : Str} [A : PuE ta da] : PuE (tFld K ta f) (dFld K da f) := ⟨fun S M σ δ H P Q w e h k =>
  A.run S M σ δ H _ _ w e h fun d S1 M1 v H1 p1 t1 w1 h1 => by
    obtain ⟨C, ns, ds, d, h2, c, n, ⟨_, l1, l2, l3⟩, p1⟩ := p1
    obtain ⟨a, dx, fs, rfl, ha, hn, hs⟩ := in_get w1 h1 h2
    obtain ⟨v, hv, hd⟩ := lk_get hn hs (lk_of l1 l2 l3)
    exact ⟨a, C, dx, fs, v, rfl, ha, c, n, hv, k _ S1 M1 _ H1 p1 t1 w1 hd⟩⟩
def lenR (M : Mem) (d : D) (P : Int → Prop) : Prop := match d with
  | .str z => z.length ≤ sizeLine ∧ P z.length
  | x => ∃ xs, isSq M x xs ∧ P xs.length
def rLen1 : DC := fun ds M P => ∃ d, ds = [d] ∧ lenR M d fun i => P (.int i) M
instance cb_len {K : PySem.W.Frag} : CbD (rLenU K) rLen1 := ⟨fun S M H vs ds P Q w hv h k => by
  obtain ⟨d, rfl, h⟩ := h
  match hv with
  | .cons h1 .nil =>
    unfold V.lenR at h
    split at h
    · cases h1
      exact ⟨h.1, k _ S M _ H h.2 .refl w (.int _)⟩
    · obtain ⟨xs, h2, p⟩ := h
      obtain ⟨a, us, rfl, ha, hs⟩ := sq_get w h1 h2
      refine ⟨us, ?_, ?_⟩
      · rcases ha with ha | ha
        · exact .inl (SqL.of ha)
        · exact .inr (Or.inl ha)
      · rw [hs.length]
        exact k _ S M _ H p .refl w (.int _)⟩
def rAll1 : DC := fun ds M P => ∃ (x : D) (bs : List Bool), ds = [x] ∧ isLs M x (bs.map D.bl) ∧ P (.bl (bs.all id)) M
def rAny1 : DC := fun ds M P => ∃ (x : D) (bs : List Bool), ds = [x] ∧ isLs M x (bs.map D.bl) ∧ P (.bl (bs.any id)) M
instance cb_all {K : PySem.W.Frag} : CbD (rAll K) rAll1 := ⟨fun S M H vs ds P Q w hv h k => by
  obtain ⟨x, bs, rfl, h2, p⟩ := h
  match hv with
  | .cons h1 .nil =>
    obtain ⟨a, us, rfl, ha, hs⟩ := ls_get w h1 h2
    have e := hs.bls_eq
    subst e
    exact ⟨a, bs, rfl, SqL.of ha, k _ S M _ H p .refl w (.bl _)⟩⟩
instance cb_any {K : PySem.W.Frag} : CbD (rAny K) rAny1 := ⟨fun S M H vs ds P Q w hv h k => by
  obtain ⟨x, bs, rfl, h2, p⟩ := h
  match hv with
  | .cons h1 .nil =>
    obtain ⟨a, us, rfl, ha, hs⟩ := ls_get w h1 h2
    have e := hs.bls_eq
    subst e
    exact ⟨a, bs, rfl, SqL.of ha, k _ S M _ H p .refl w (.bl _)⟩⟩
def rMax1 : DC := fun ds M P => ∃ (x : D) (ns : List Int), ds = [x] ∧ isLs M x (ns.map D.int) ∧ 0 < ns.length ∧ ∀ m, m ∈ ns → (∀ y, y ∈ ns → y ≤ m) → P (.int m) M
def rMin1 : DC := fun ds M P => ∃ (x : D) (ns : List Int), ds = [x] ∧ isLs M x (ns.map D.int) ∧ 0 < ns.length ∧ ∀ m, m ∈ ns → (∀ y, y ∈ ns → m ≤ y) → P (.int m) M
instance cb_max {K : PySem.W.Frag} : CbD (rMax K) rMax1 := ⟨fun S M H vs ds P Q w hv h k => by
  obtain ⟨x, ns, rfl, h2, hl, p⟩ := h
  match hv with
  | .cons h1 .nil =>
    obtain ⟨a, us, rfl, ha, hs⟩ := ls_get w h1 h2
    have e := hs.ints_eq
    subst e
    exact ⟨a, ns, rfl, SqL.of ha, hl, fun m hm hx => k _ S M _ H (p m hm hx) .refl w (.int _)⟩⟩
instance cb_min {K : PySem.W.Frag} : CbD (rMin K) rMin1 := ⟨fun S M H vs ds P Q w hv h k => by
  obtain ⟨x, ns, rfl, h2, hl, p⟩ := h
  match hv with
  | .cons h1 .nil =>
    obtain ⟨a, us, rfl, ha, hs⟩ := ls_get w h1 h2
    have e := hs.ints_eq
    subst e
    exact ⟨a, ns, rfl, SqL.of ha, hl, fun m hm hx => k _ S M _ H (p m hm hx) .refl w (.int _)⟩⟩
def rSum1 : DC := fun ds M P => ∃ (x : D) (ns : List Int), ds = [x] ∧ isLs M x (ns.map D.int) ∧ P (.int ns.sum) M
instance cb_sum {K : PySem.W.Frag} : CbD (rSum K) rSum1 := ⟨fun S M H vs ds P Q w hv h k => by
  obtain ⟨x, ns, rfl, h2, p⟩ := h
  match hv with
  | .cons h1 .nil =>
    obtain ⟨a, us, rfl, ha, hs⟩ := ls_get w h1 h2
    have e := hs.ints_eq
    subst e
    exact ⟨a, ns, rfl, SqL.of ha, k _ S M _ H p .refl w (.int _)⟩⟩
class VD1 (f : Int → V) (g : outParam (Int → D)) : Prop where
  run : ∀ S H i, Dt S H (f i) (g i)
instance vd1_int {f : Int → Int} : VD1 (fun i => .int (f i)) (fun i => .int (f i)) := ⟨fun _ _ _ => .int _⟩
def rI11 (g : Int → D) : DC := fun ds M P => ∃ i, ds = [.int i] ∧ P (g i) M
def rI21 (g : Int → Int → D) : DC := fun ds M P => ∃ i j, ds = [.int i, .int j] ∧ P (g i j) M
instance cb_I1 {f : Int → V} {g : Int → D} [F : VD1 f g] : CbD (U.rI1 f) (rI11 g) := ⟨fun S M H vs ds P Q w hv h k => by
  obtain ⟨i, rfl, p⟩ := h
  match hv with
  | .cons h1 .nil =>
    cases h1
    exact k _ S M _ H p .refl w (F.run S H i)⟩
instance cb_I2 {f : Int → Int → V} {g : Int → Int → D} [F : VD f g] : CbD (rI2 f) (rI21 g) := ⟨fun S M H vs ds P Q w hv h k => by
  obtain ⟨i, j, rfl, p⟩ := h
  match hv with
  | .cons h1 (.cons h2 .nil) =>
    cases h1
    cases h2
    exact k _ S M _ H p .refl w (F.run S H i j)⟩
instance cb_int1 : CbD rInt1 (rI11 fun i => .int i) := ⟨fun S M H vs ds P Q w hv h k => by
  obtain ⟨i, rfl, p⟩ := h
  match hv with
  | .cons h1 .nil =>
    cases h1
    exact k _ S M _ H p .refl w (.int i)⟩
def dNeg (a : DE) : DE := fun δ M P => a δ M fun x M1 => ∃ i, x = .int i ∧ P (.int (-i)) M1
instance pu_neg {ta : TE} {da : DE} [A : PuE ta da] : PuE (tUn (rU fun i => .int (-i)) ta) (dNeg da) := ⟨fun S M σ δ H P Q w e h k =>
  A.run S M σ δ H _ _ w e h fun d S1 M1 v H1 p1 t1 w1 h1 => by
    obtain ⟨i, rfl, p1⟩ := p1
    cases h1
    exact ⟨i, rfl, k _ S1 M1 _ H1 p1 t1 w1 (.int _)⟩⟩
def listR (M : Mem) (d : D) (P : List D → Prop) : Prop := match d with
  | .str z => z.length ≤ sizeLine ∧ P ((cd z).map sgn)
  | x => ∃ xs, isSq M x xs ∧ P xs
def rList1 : DC := fun ds M P => ∃ d, ds = [d] ∧ listR M d fun xs => P (.lst xs) M
instance cb_list {K : PySem.W.Frag} : CbD (rListU K) rList1 := ⟨fun S M H vs ds P Q w hv h k => by
  obtain ⟨d, rfl, h⟩ := h
  match hv with
  | .cons h1 .nil =>
    unfold listR at h
    split at h
    · cases h1
      exact ⟨h.1, fun l nl => k _ S M _ _ h.2 (.new nl) (w.new nl) (.lst (w.ns nl) upd_same ((dt_signsV (S := S) (H := H) _).sm (Same.new nl)))⟩
    · obtain ⟨xs, h2, p⟩ := h
      obtain ⟨a, us, rfl, ha, hs⟩ := sq_get w h1 h2
      refine ⟨us, ?_, fun l nl => k _ S M _ _ p (.new nl) (w.new nl) (.lst (w.ns nl) upd_same (hs.sm (Same.new nl)))⟩
      rcases ha with ha | ha
      · exact .inl (SqL.of ha)
      · exact .inr (Or.inl ha)⟩
/-- str(n) -/
def rStr1 : List V → Hp → VK → Prop := fun xs H Q => ∃ i, xs = [.int i] ∧ i.natAbs.log2 < 1920 ∧ Q (.str (toString i)) H
def rStrD : DC := fun ds M P => ∃ i, ds = [.int i] ∧ i.natAbs.log2 < 1920 ∧ P (.str (Str.ofString (toString i))) M
instance cb_str : CbD rStr1 rStrD := ⟨fun S M H vs ds P Q w hv h k => by
  obtain ⟨i, rfl, hl, p⟩ := h
  match hv with
  | .cons h1 .nil =>
    cases h1
    exact ⟨i, rfl, hl, k _ S M _ H p .refl w (.str _)⟩⟩
/-- tuple(x) -/
def kTup1 (x : D) (M : Mem) (P : QD) : Prop := ∃ xs, (x = .lst xs ∨ x = .tup xs ∨ ∃ a, x = .ptr a ∧ M a = some (.lst xs)) ∧ P (.tup xs) M
instance pu_tupOf {K : PySem.W.Frag} {ta : TE} {da : DE} [A : PuE ta da] : PuE (tThen ta (kTup K)) (dThen da kTup1) := ⟨fun S M σ δ H P Q w e h k =>
  A.run S M σ δ H _ _ w e h fun d S1 M1 v H1 p1 t1 w1 h1 => by
    obtain ⟨xs, h2, p1⟩ := p1
    rcases h2 with rfl | rfl | ⟨a, rfl, h2⟩
    · cases h1 with
      | lst n ha hs => exact .inl ⟨_, _, rfl, SqL.of ha, fun p np => k _ S1 M1 _ _ p1 (t1.trans (.new np)) (w1.new np) (.tup (w1.ns np) upd_same (hs.sm (Same.new np)))⟩
    · cases h1 with
      | tup n ha hs => exact .inr ⟨_, _, rfl, SqT.of ha, k _ S1 M1 _ _ p1 t1 w1 (.tup n ha hs)⟩
    · cases h1
      obtain ⟨_, vs, ha, hs⟩ := w1.mem a _ h2
      exact .inl ⟨_, _, rfl, SqL.of ha, fun p np => k _ S1 M1 _ _ p1 (t1.trans (.new np)) (w1.new np) (.tup (w1.ns np) upd_same (hs.sm (Same.new np)))⟩⟩
/-- list(range(n)) -/
abbrev TR := L2.St → Hp → (Int → Int → Hp → Prop) → Prop
abbrev DRg := Dl → Mem → (Int → Int → Mem → Prop) → Prop
class PuRg (t : TR) (dt : outParam DRg) : Prop where
  run : ∀ S M σ δ H (P : Int → Int → Mem → Prop) (Q : Int → Int → Hp → Prop), Wo S M H → En S H σ δ → dt δ M P → (∀ i j S' M' H', P i j M' → Step S M H S' M' H' → Wo S' M' H' → Q i j H') → t σ H Q
def dRg1 (a : DE) : DRg := fun δ M P => a δ M fun x M1 => ∃ n, x = .int n ∧ P 0 n M1
def dRg2 (a b : DE) : DRg := fun δ M P => a δ M fun x M1 => b δ M1 fun y M2 => ∃ i j, x = .int i ∧ y = .int j ∧ P i j M2
instance pu_rg1 {ta : TE} {da : DE} [A : PuE ta da] : PuRg (tRg1 ta) (dRg1 da) := ⟨fun S M σ δ H P Q w e h k =>
  A.run S M σ δ H _ _ w e h fun d S1 M1 v H1 p1 t1 w1 h1 => by
    obtain ⟨i, rfl, p1⟩ := p1
    cases h1
    exact ⟨i, rfl, k _ _ S1 M1 H1 p1 t1 w1⟩⟩
instance pu_rg2 {ta tb : TE} {da db : DE} [A : PuE ta da] [B : PuE tb db] : PuRg (tRg2 ta tb) (dRg2 da db) := ⟨fun S M σ δ H P Q w e h k =>
  A.run S M σ δ H _ _ w e h fun d S1 M1 v H1 p1 t1 w1 h1 =>
    B.run S1 M1 σ δ H1 _ _ w1 (e.step w t1) p1 fun d2 S2 M2 v2 H2 p2 t2 w2 h2 => by
      obtain ⟨i, j, rfl, rfl, p2⟩ := p2
      cases h1
      cases h2
      exact ⟨i, j, rfl, rfl, k _ _ S2 M2 H2 p2 (t1.trans t2) w2⟩⟩
def rgD (i j : Int) : List D := (List.range (j - i).toNat).map fun k => D.int (i + (k : Nat))
theorem dt_rgD {S : Addr → Prop} {H : Hp} (i j : Int) : DtA S H (rgV i j) (rgD i j) := by
  unfold rgV rgD
  generalize (j - i).toNat = n
  have : ∀ l : List Nat, DtA S H (l.map fun k => V.int (i + (k : Nat))) (l.map fun k => D.int (i + (k : Nat))) := fun l => by
    induction l with
    | nil => exact .nil
    | cons a l ih => exact .cons (.int _) ih
  exact this _
def dLstRg (t : DRg) : DE := fun δ M P => t δ M fun a b M1 => RgOk a b ∧ P (.lst (rgD a b)) M1
instance pu_lstRg {t : TR} {dt : DRg} [A : PuRg t dt] : PuE (tLstRg t) (dLstRg dt) := ⟨fun S M σ δ H P Q w e h k =>
  A.run S M σ δ H _ _ w e h fun i j S1 M1 H1 p1 t1 w1 => ⟨p1.1, fun p np => k _ S1 M1 _ _ p1.2 (t1.trans (.new np)) (w1.new np) (.lst (w1.ns np) upd_same ((dt_rgD i j).sm (Same.new np)))⟩⟩
/-- isinstance(x, C): what is known of x's class -/
inductive TyD (K : PySem.W.Frag) (M : Mem) : D → Value → Prop where
  | non : TyD K M .non (.type "NoneType")
  | bl (b : Bool) : TyD K M (.bl b) (.type "bool")
  | int (i : Int) : TyD K M (.int i) (.type "int")
  | str (x : Str) : TyD K M (.str x) (.type "str")
  | lst (xs : List D) : TyD K M (.lst xs) (.type "list")
  | tup (xs : List D) : TyD K M (.tup xs) (.type "tuple")
  | ftp (xs : List D) : TyD K M (.ftp xs) (.type "tuple")
  | emp (a : Addr) : TyD K M (.opq a (.dK [])) (.type "dict")
  | mlst {a : Addr} {xs : List D} (h : M a = some (.lst xs)) : TyD K M (.ptr a) (.type "list")
  | mdic {a : Addr} {xs : List (Key × D)} (h : M a = some (.dic xs)) : TyD K M (.ptr a) (.type "dict")
  | ins {C : Addr} {x : D} {ns : List Str} {xs : List D} (h : isIn M x C ns xs) (c : C8.InsC K C) : TyD K M x (.ref C)
def rIsi1 (K : PySem.W.Frag) : DC := fun ds M P => match ds with
  | [x, .ty n] => ∃ t b, TyD K M x t ∧ PySem.W.kitOne K t (.type n) = some b ∧ P (.bl b) M
  | [x, .ptr C] => ∃ t b, TyD K M x t ∧ PySem.W.kitOne K t (.ref C) = some b ∧ P (.bl b) M
  | _ => False
theorem tyD_go {S : Addr → Prop} {M : Mem} {H : Hp} {K : PySem.W.Frag} (w : Wo S M H) {v : V} {x : D} {t : Value} (h : Dt S H v x) (ty : TyD K M x t) : TyX K H v t := by
  cases ty with
  | non => cases h; exact .base .non
  | bl b => cases h; exact .base (.bl _)
  | int b => cases h; exact .base (.int _)
  | str b => cases h; exact .base (.str _)
  | lst xs => cases h with
    | lst n ha hs => exact .base (.lst ha)
  | tup xs => cases h with
    | tup n ha hs => exact .base (.tup ha)
  | ftp xs => cases h with
    | ftp n ha hd hs => exact .fTuple ha
  | emp a => cases h with
    | opq n ha => exact .base (.dK ha)
  | mlst hm =>
    cases h
    obtain ⟨_, vs, ha, _⟩ := w.mem _ _ hm
    exact .base (.lst ha)
  | mdic hm =>
    cases h
    obtain ⟨_, vs, ha, _⟩ := w.mem _ _ hm
    exact .base (.dK ha)
  | ins hi c =>
    obtain ⟨a, dx, fs, rfl, ha, _, _⟩ := in_get w h hi
    exact .base (.ins ha c.cl c.ha c.hn c.htk c.hm)
instance cb_isi {K : PySem.W.Frag} : CbD (rIsi K) (rIsi1 K) := ⟨fun S M H vs ds P Q w hv h k => by
  unfold rIsi1 at h
  split at h
  · obtain ⟨t, b, ty, e, p⟩ := h
    match hv with
    | .cons h1 (.cons h2 .nil) =>
      cases h2
      exact ⟨_, _, t, _, b, rfl, .ty _, tyD_go w h1 ty, e, k _ S M _ H p .refl w (.bl _)⟩
  · obtain ⟨t, b, ty, e, p⟩ := h
    match hv with
    | .cons h1 (.cons h2 .nil) =>
      cases h2
      exact ⟨_, _, t, _, b, rfl, .own _, tyD_go w h1 ty, e, k _ S M _ H p .refl w (.bl _)⟩
  · exact h.elim⟩
/-- repr -/
def rRepr1 : DC := fun ds M P => ∃ d p, ds = [d] ∧ D.py (vw M d) = some p ∧ PyData.showable p = true ∧ PyData.hasDict p = false ∧ PyData.depth p ≤ 40 ∧ (PyData.shown p).length ≤ sizeLine ∧ P (.str (PyData.shown p)) M
theorem repr1_of {M : Mem} {P : QD} {d : D} {W k : Nat} (o : okP W k (vw M d)) (hk : k ≤ 40) (hW : W ≤ 1048576) (q : ∀ p, D.py (vw M d) = some p → P (.str (PyData.shown p)) M) : rRepr1 [d] M P := by
  obtain ⟨p, e, ho⟩ := o
  exact ⟨d, p, rfl, e, ho.sh, ho.nd, Nat.le_trans ho.dep hk, ho.fits hW, q p e⟩
instance cb_repr {K : PySem.W.Frag} : CbD (rRepr K) rRepr1 := ⟨fun S M H vs ds P Q w hv h k => by
  obtain ⟨d, p, rfl, e, h1, h2, h3, h4, q⟩ := h
  match hv with
  | .cons h0 .nil => exact ⟨_, p, rfl, dt_vw w h0 e, h1, h2, h3, h4, k _ S M _ H q .refl w (.str _)⟩⟩
/-- sep.join(xs) -/
def rJoin1 (x y : D) (M : Mem) (P : QD) : Prop := ∃ a, ∃ ys : List Str, x = .str a ∧ isSq M y (ys.map D.str) ∧ (ys.map (·.length)).sum + ys.length * a.length ≤ 16777216 ∧ P (.str (Txt.join a ys)) M
def dJoin1 (a b : DE) : DE := fun δ M P => a δ M fun x M1 => (∃ z, x = .str z) ∧ b δ M1 fun y M2 => rJoin1 x y M2 P
instance pu_join {K : PySem.W.Frag} {ta tb : TE} {da db : DE} [A : PuE ta da] [B : PuE tb db] : PuE (tM1 (rJoin K) ta tb) (dJoin1 da db) := ⟨fun S M σ δ H P Q w e h k =>
  A.run S M σ δ H _ _ w e h fun d S1 M1 v H1 p1 t1 w1 h1 => by
    obtain ⟨⟨z, rfl⟩, p1⟩ := p1
    cases h1
    refine ⟨⟨z, rfl⟩, B.run S1 M1 σ δ H1 _ _ w1 (e.step w t1) p1 fun d2 S2 M2 v2 H2 p2 t2 w2 h2 => ?_⟩
    obtain ⟨a, ys, ea, hy, hl, p2⟩ := p2
    cases ea
    obtain ⟨p, vs, rfl, ha, hs⟩ := sq_get w2 h2 hy
    have es := hs.strs_eq
    subst es
    refine ⟨z, p, ys, rfl, rfl, ?_, hl, k _ S2 M2 _ H2 p2 (t1.trans t2) w2 (.str _)⟩
    rcases ha with ha | ha
    · exact .inl (SqL.of ha)
    · exact .inr (Or.inl ha)⟩
def dAppend (a : DE) (b : DA) : DE := fun δ M P => a δ M fun x M1 => ∃ l, x = .ptr l ∧ (∃ xs, M1 l = some (.lst xs)) ∧ b δ M1 fun ys M2 => ∃ xs y, ys = [y] ∧ M2 l = some (.lst xs) ∧ xs.length < sizeLine ∧ P .non (mset M2 l (.lst (xs ++ [y])))
instance pu_append {K : PySem.W.Frag} {ta : TE} {tb : TA} {da : DE} {db : DA} [A : PuE ta da] [B : PuA tb db] : PuE (tBM K "list" rAppend ta tb) (dAppend da db) := ⟨fun S M σ δ H P Q w e h k =>
  A.run S M σ δ H _ _ w e h fun d S1 M1 v H1 p1 t1 w1 h1 => by
    obtain ⟨l, rfl, ⟨xs, hx⟩, p1⟩ := p1
    cases h1
    obtain ⟨_, vs, ha, hs⟩ := w1.mem l _ hx
    refine ⟨.inl ⟨rfl, _, SqL.of ha⟩, B.run S1 M1 σ δ H1 _ _ w1 (e.step w t1) p1 fun d2 S2 M2 v2 H2 p2 t2 w2 h2 => ?_⟩
    obtain ⟨xs, y, rfl, hm, hz, p2⟩ := p2
    obtain ⟨sl, vs, ha, hs⟩ := w2.mem l _ hm
    match v2, h2 with
    | [u], .cons h2 .nil =>
      have ex : Ext S2 H2 (upd H2 l (.lst (vs ++ [u]))) := Ext.mut (Ext.refl _) sl
      exact ⟨l, vs, _, rfl, rfl, ha, by rw [hs.length]; exact hz, k _ _ _ _ _ p2 ((t1.trans t2).trans (.change hm)) (w2.change hm ⟨_, upd_same, (hs.snoc h2).go ex⟩) .non⟩⟩
def dFmt (a : DE) : DE := fun δ M P => a δ M fun x M1 => match x with
  | .str y => y.length ≤ sizeLine ∧ P (.str y) M1
  | .int i => i.natAbs.log2 < 1920 ∧ P (.str (Str.ofString (toString i))) M1
  | _ => False
instance pu_fmt {ta : TE} {da : DE} [A : PuE ta da] : PuE (tFmt ta) (dFmt da) := ⟨fun S M σ δ H P Q w e h k =>
  A.run S M σ δ H _ _ w e h fun d S1 M1 v H1 p1 t1 w1 h1 => by
    split at p1
    · cases h1
      exact .inl ⟨_, rfl, p1.1, k _ S1 M1 _ H1 p1.2 t1 w1 (.str _)⟩
    · cases h1
      exact .inr ⟨_, rfl, p1.1, k _ S1 M1 _ H1 p1.2 t1 w1 (.str _)⟩
    · exact p1.elim⟩
def tJoin (ts : List TE) : TE := fun σ H Q => tJs ts Str.empty σ H fun out H1 => Q (.str out) H1
def dJs : List DE → Str → Dl → Mem → (Str → Mem → Prop) → Prop
  | [], acc, _, M, P => P acc M
  | d :: ds, acc, δ, M, P => d δ M fun x M1 => ∃ y : Str, x = .str y ∧ (acc ++ y).length ≤ sizeLine ∧ dJs ds (acc ++ y) δ M1 P
class PuJ (ts : List TE) (ds : outParam (List DE)) : Prop where
  run : ∀ S M σ δ H acc (P : Str → Mem → Prop) (Q : Str → Hp → Prop), Wo S M H → En S H σ δ → dJs ds acc δ M P → (∀ o S' M' H', P o M' → Step S M H S' M' H' → Wo S' M' H' → Q o H') → tJs ts acc σ H Q
instance pu_j0 : PuJ [] [] := ⟨fun S M σ δ H acc P Q w e h k => k _ S M H h .refl w⟩
instance pu_j1 {t : TE} {ts : List TE} {d : DE} {ds : List DE} [A : PuE t d] [B : PuJ ts ds] : PuJ (t :: ts) (d :: ds) := ⟨fun S M σ δ H acc P Q w e h k =>
  A.run S M σ δ H _ _ w e h fun d S1 M1 v H1 p1 t1 w1 h1 => by
    obtain ⟨y, rfl, hz, p1⟩ := p1
    cases h1
    exact ⟨y, rfl, hz, B.run S1 M1 σ δ H1 _ P Q w1 (e.step w t1) p1 fun o S2 M2 H2 p2 t2 w2 => k o S2 M2 H2 p2 (t1.trans t2) w2⟩⟩
def dJoin (ds : List DE) : DE := fun δ M P => dJs ds Str.empty δ M fun out M1 => P (.str out) M1
instance pu_joined {ts : List TE} {ds : List DE} [A : PuJ ts ds] : PuE (tJoin ts) (dJoin ds) := ⟨fun S M σ δ H P Q w e h k =>
  A.run S M σ δ H _ _ _ w e h fun o S1 M1 H1 p1 t1 w1 => k _ S1 M1 _ H1 p1 t1 w1 (.str o)⟩
end V
namespace V
open PySem PySem.Spec PyProof.Rows L2 U StX
abbrev QS := Dl → Mem → Prop
abbrev DG := D → Dl → Mem → QS → Prop
abbrev DGs := List D → Dl → Mem → QS → Prop
/-- only these slots are stored -/
def Onl (sl : List Nat) (σ σ' : L2.St) : Prop := ∀ vs : List Nat, (∀ i ∈ sl, i ∈ vs) → L2.wipe σ' vs = L2.wipe σ vs
class PuG (g : TG) (dg : outParam DG) (sl : outParam (List Nat)) : Prop where
  run : ∀ S M σ δ H v d (P : QS) (R : L2.St → Hp → Prop), Wo S M H → En S H σ δ → Dt S H v d → dg d δ M P → (∀ δ' S' M' σ' H', P δ' M' → Step S M H S' M' H' → Wo S' M' H' → En S' H' σ' δ' → Onl sl σ σ' → R σ' H') → g v σ H R
class PuGs (g : TGs) (dg : outParam DGs) (sl : outParam (List Nat)) : Prop where
  run : ∀ S M σ δ H v d (P : QS) (R : L2.St → Hp → Prop), Wo S M H → En S H σ δ → DtA S H v d → dg d δ M P → (∀ δ' S' M' σ' H', P δ' M' → Step S M H S' M' H' → Wo S' M' H' → En S' H' σ' δ' → Onl sl σ σ' → R σ' H') → g v σ H R
theorem wipe_set (σ : L2.St) (i : Nat) (o : Option V) : ∀ vs : List Nat, i ∈ vs → L2.wipe (σ.set i o) vs = L2.wipe σ vs
  | v :: vs, h => by
    unfold L2.wipe
    by_cases c : i ∈ vs
    · rw [wipe_set σ i o vs c]
    · have e : i = v := (List.mem_cons.mp h).elim id fun z => (c z).elim
      subst e
      have : ∀ vs : List Nat, i ∉ vs → L2.wipe (σ.set i o) vs = (L2.wipe σ vs).set i o := by
        intro vs
        induction vs with
        | nil => intro _; rfl
        | cons w ws ih =>
          intro n
          rw [List.mem_cons, not_or] at n
          unfold L2.wipe
          rw [ih n.2, List.set_comm _ _ n.1]
      rw [this vs c, List.set_set]
def dgN (i : Nat) : DG := fun d δ M P => P (δ.set i (some d)) M
instance pu_gName {i : Nat} : PuG (gName i) (dgN i) [i] := ⟨fun S M σ δ H v d P R w e h p k => k _ S M _ H p .refl w (e.set h) fun vs hv => wipe_set _ _ _ _ (hv i (List.mem_singleton.mpr rfl))⟩
def dgsNil : DGs := fun ds δ M P => ds = [] ∧ P δ M
def dgsCons (g : DG) (r : DGs) : DGs := fun ds δ M P => ∃ d es, ds = d :: es ∧ g d δ M fun δ1 M1 => r es δ1 M1 P
instance pu_gNil : PuGs gNil dgsNil [] := ⟨fun S M σ δ H v d P R w e h p k => by
  obtain ⟨rfl, p⟩ := p
  cases h
  exact ⟨rfl, k _ S M _ H p .refl w e fun _ _ => rfl⟩⟩
instance pu_gCons {g : TG} {gs : TGs} {dg : DG} {dgs : DGs} {s1 s2 : List Nat} [A : PuG g dg s1] [B : PuGs gs dgs s2] : PuGs (gCons g gs) (dgsCons dg dgs) (s1 ++ s2) := ⟨fun S M σ δ H v d P R w e h p k => by
  obtain ⟨x, xs, rfl, p⟩ := p
  cases h with
  | cons h1 h2 =>
    refine ⟨_, _, rfl, A.run S M σ δ H _ x _ _ w e h1 p fun δ1 S1 M1 σ1 H1 p1 t1 w1 e1 o1 => ?_⟩
    refine B.run S1 M1 σ1 δ1 H1 _ xs P _ w1 e1 (dtA_step w t1 _ h2) p1 fun δ2 S2 M2 σ2 H2 p2 t2 w2 e2 o2 => k δ2 S2 M2 σ2 H2 p2 (t1.trans t2) w2 e2 fun vs hv => ?_
    rw [o2 vs fun i hi => hv i (List.mem_append_right _ hi), o1 vs fun i hi => hv i (List.mem_append_left _ hi)]⟩
def dgT (n : Nat) (g : DGs) : DG := fun d δ M P => ∃ xs, d = .tup xs ∧ xs.length = n ∧ g xs δ M P
instance pu_gTup {K : PySem.W.Frag} {n : Nat} {gs : TGs} {dgs : DGs} {s : List Nat} [A : PuGs gs dgs s] : PuG (gTup K n gs) (dgT n dgs) s := ⟨fun S M σ δ H v d P R w e h p k => by
  obtain ⟨xs, rfl, hl, p⟩ := p
  cases h with
  | tup n ha hs => exact ⟨_, _, rfl, SqT.of ha, by rw [hs.length]; exact hl, A.run S M σ δ H _ xs P R w e hs p k⟩⟩
abbrev DS := QS → QD → QS → QS → QS
structure Lk (S : Addr → Prop) (M : Mem) (H : Hp) (nx : QS) (rt : QD) (bk ct : QS) (E : Ends) : Prop where
  nx : ∀ δ' S' M' σ' H', nx δ' M' → Step S M H S' M' H' → Wo S' M' H' → En S' H' σ' δ' → E.nx σ' H'
  rt : AtE S M H rt E.rt
  bk : ∀ δ' S' M' σ' H', bk δ' M' → Step S M H S' M' H' → Wo S' M' H' → En S' H' σ' δ' → E.bk σ' H'
  ct : ∀ δ' S' M' σ' H', ct δ' M' → Step S M H S' M' H' → Wo S' M' H' → En S' H' σ' δ' → E.ct σ' H'
theorem Lk.go {S S' : Addr → Prop} {M M' : Mem} {H H' : Hp} {nx : QS} {rt : QD} {bk ct : QS} {E : Ends} (l : Lk S M H nx rt bk ct E) (t : Step S M H S' M' H') : Lk S' M' H' nx rt bk ct E :=
  ⟨fun a b c d e p t2 w f => l.nx a b c d e p (t.trans t2) w f, l.rt.go t, fun a b c d e p t2 w f => l.bk a b c d e p (t.trans t2) w f, fun a b c d e p t2 w f => l.ct a b c d e p (t.trans t2) w f⟩
class PuS (t : TS) (dt : outParam DS) : Prop where
  run : ∀ S M σ δ H nx rt bk ct (E : Ends), Wo S M H → En S H σ δ → dt nx rt bk ct δ M → Lk S M H nx rt bk ct E → t E σ H
def sNext : DS := fun nx _ _ _ δ M => nx δ M
def sSeq (a b : DS) : DS := fun nx rt bk ct δ M => a (fun δ1 M1 => b nx rt bk ct δ1 M1) rt bk ct δ M
def sBreak : DS := fun _ _ bk _ δ M => bk δ M
def sCont : DS := fun _ _ _ ct δ M => ct δ M
def sDrop (a : DE) : DS := fun nx _ _ _ δ M => a δ M fun _ M1 => nx δ M1
def sRet (a : DE) : DS := fun _ rt _ _ δ M => a δ M rt
def sRetN : DS := fun _ rt _ _ _ M => rt .non M
def sIf (c : DT) (a b : DS) : DS := fun nx rt bk ct δ M => c δ M fun k M1 => if k = true then a nx rt bk ct δ M1 else b nx rt bk ct δ M1
def sNever : DS := fun _ _ _ _ _ _ => False
def sAsg (a : DE) (g : DG) : DS := fun nx _ _ _ δ M => a δ M fun x M1 => g x δ M1 nx
def sPar (i j : Nat) (t : DA) : DS := fun nx _ _ _ δ M => t δ M fun xs M1 => ∃ x y, xs = [x, y] ∧ nx ((δ.set i (some x)).set j (some y)) M1
section
variable {t u : TS} {dt du : DS} {ta : TE} {da : DE} {c : TT} {dc : DT} {g : TG} {dg : DG}
instance pu_next : PuS tNext sNext := ⟨fun S M σ δ H nx rt bk ct E w e h l => l.nx _ S M _ H h .refl w e⟩
instance pu_seq [A : PuS t dt] [B : PuS u du] : PuS (tSeq t u) (sSeq dt du) := ⟨fun S M σ δ H nx rt bk ct E w e h l =>
  A.run S M σ δ H _ _ _ _ _ w e h ⟨fun δ1 S1 M1 σ1 H1 p1 t1 w1 e1 => B.run S1 M1 σ1 δ1 H1 nx rt bk ct E w1 e1 p1 (l.go t1), l.rt, l.bk, l.ct⟩⟩
instance pu_break : PuS tBreak sBreak := ⟨fun S M σ δ H nx rt bk ct E w e h l => l.bk _ S M _ H h .refl w e⟩
instance pu_cont : PuS tCont sCont := ⟨fun S M σ δ H nx rt bk ct E w e h l => l.ct _ S M _ H h .refl w e⟩
instance pu_drop [A : PuE ta da] : PuS (tDrop ta) (sDrop da) := ⟨fun S M σ δ H nx rt bk ct E w e h l =>
  A.run S M σ δ H _ _ w e h fun d S1 M1 v H1 p1 t1 w1 h1 => l.nx _ S1 M1 _ H1 p1 t1 w1 (e.step w t1)⟩
instance pu_ret [A : PuE ta da] : PuS (tRet ta) (sRet da) := ⟨fun S M σ δ H nx rt bk ct E w e h l => A.run S M σ δ H _ _ w e h l.rt⟩
instance pu_retN : PuS tRetN sRetN := ⟨fun S M σ δ H nx rt bk ct E w e h l => l.rt _ S M _ H h .refl w .non⟩
instance pu_ifS [C : PuT c dc] [A : PuS t dt] [B : PuS u du] : PuS (tIfS c t u) (sIf dc dt du) := ⟨fun S M σ δ H nx rt bk ct E w e h l =>
  C.run S M σ δ H _ _ w e h fun b S1 M1 H1 p1 t1 w1 => by
    cases b with
    | true =>
      rw [if_pos rfl] at p1 ⊢
      exact A.run S1 M1 σ δ H1 nx rt bk ct E w1 (e.step w t1) p1 (l.go t1)
    | false =>
      rw [if_neg Bool.false_ne_true] at p1 ⊢
      exact B.run S1 M1 σ δ H1 nx rt bk ct E w1 (e.step w t1) p1 (l.go t1)⟩
instance pu_never : PuS tNever sNever := ⟨fun S M σ δ H nx rt bk ct E w e h l => h.elim⟩
instance pu_asg {sl : List Nat} [A : PuE ta da] [B : PuG g dg sl] : PuS (tAsg ta g) (sAsg da dg) := ⟨fun S M σ δ H nx rt bk ct E w e h l =>
  A.run S M σ δ H _ _ w e h fun d S1 M1 v H1 p1 t1 w1 h1 =>
    B.run S1 M1 σ δ H1 v d _ _ w1 (e.step w t1) h1 p1 fun δ2 S2 M2 σ2 H2 p2 t2 w2 e2 _ => l.nx δ2 S2 M2 σ2 H2 p2 (t1.trans t2) w2 e2⟩
instance pu_par {i j : Nat} {tt : TA} {dd : DA} [A : PuA tt dd] : PuS (tPar i j tt) (sPar i j dd) := ⟨fun S M σ δ H nx rt bk ct E w e h l =>
  A.run S M σ δ H _ _ w e h fun d S1 M1 v H1 p1 t1 w1 h1 => by
    obtain ⟨x, y, rfl, p1⟩ := p1
    match v, h1 with
    | [u, v], .cons h2 (.cons h3 .nil) => exact ⟨u, v, rfl, l.nx _ S1 M1 _ H1 p1 t1 w1 (((e.step w t1).set h2).set h3)⟩⟩
end
/-- x op= e of numbers -/
class IpD (r : TIp) (rd : outParam DR) : Prop where
  run : ∀ S M H x y dx dy P Q, Wo S M H → Dt S H x dx → Dt S H y dy → rd dx dy M P → AtE S M H P Q → r x y H Q
instance ip_I {f : Int → Int → Int} : IpD (ipI f) (V.rI1 fun i j => .int (f i j)) := ⟨fun S M H x y dx dy P Q w hx hy h k => by
  obtain ⟨i, j, rfl, rfl, p⟩ := h
  cases hx; cases hy
  exact ⟨i, j, rfl, rfl, k _ S M _ H p .refl w (.int _)⟩⟩
def sAug (i : Nat) (a : DE) (r : DR) : DS := fun nx _ _ _ δ M => ∃ x, δ[i]? = some (some x) ∧ a δ M fun y M1 => r x y M1 fun z M2 => nx (δ.set i (some z)) M2
instance pu_aug {i : Nat} {ta : TE} {da : DE} {r : TIp} {rd : DR} [A : PuE ta da] [B : IpD r rd] : PuS (tAug i ta r) (sAug i da rd) := ⟨fun S M σ δ H nx rt bk ct E w e h l => by
  obtain ⟨x, hx, p⟩ := h
  obtain ⟨v, hv, hd⟩ := e.at_ i x hx
  refine ⟨v, hv, A.run S M σ δ H _ _ w e p fun d S1 M1 u H1 p1 t1 w1 h1 => ?_⟩
  exact B.run S1 M1 H1 _ _ _ _ _ _ w1 (dt_step w t1 _ hd) h1 p1 fun z S2 M2 y H2 p2 t2 w2 h2 => l.nx _ S2 M2 _ H2 p2 (t1.trans t2) w2 ((e.step w (t1.trans t2)).set h2)⟩
/-- a field of a changing instance -/
def rPut1 (K : PySem.W.Frag) (f : Str) (x y : D) (M : Mem) (P : Mem → Prop) : Prop := ∃ p C fs, x = .ptr p ∧ M p = some (.ins C fs) ∧ Cls K C ∧ NoAttr K C f ∧ fs.length < 1000 ∧ P (mset M p (.ins C (putD f y fs)))
def sFldD (K : PySem.W.Frag) (a v : DE) (f : Str) : DS := fun nx _ _ _ δ M => v δ M fun y M1 => a δ M1 fun x M2 => rPut1 K f x y M2 (nx δ)
theorem put_held {S : Addr → Prop} {H : Hp} {f : Str} {v : V} {d : D} (hd : Dt S H v d) : ∀ {gs : List (Str × V)} {fs : List (Str × D)}, gs.map (·.1) = fs.map (·.1) → DtA S H (gs.map (·.2)) (fs.map (·.2)) → (putF f v gs).map (·.1) = (putD f d fs).map (·.1) ∧ DtA S H ((putF f v gs).map (·.2)) ((putD f d fs).map (·.2))
  | [], [], _, _ => ⟨rfl, .cons hd .nil⟩
  | (n, u) :: gs, (m, e) :: fs, h, .cons h1 t => by
    rw [List.map_cons, List.map_cons, List.cons.injEq] at h
    obtain ⟨h0, h⟩ := h
    have h0 : n = m := h0
    subst h0
    unfold putF putD
    by_cases c : n = f
    · simp only [c, if_true, beq_self_eq_true, List.map_cons]
      exact ⟨by rw [h], .cons hd t⟩
    · have c' : (n == f) = false := by simpa using c
      simp only [c, c', if_false, Bool.false_eq_true, List.map_cons]
      obtain ⟨a, b⟩ := put_held hd h t
      exact ⟨by rw [a], .cons h1 b⟩
theorem map_len {α β γ : Type} {f : α → γ} {g : β → γ} {l : List α} {m : List β} (h : l.map f = m.map g) : l.length = m.length := by
  have := congrArg List.length h
  rwa [List.length_map, List.length_map] at this
instance pu_sfld {K : PySem.W.Frag} {ta tv : TE} {da dv : DE} {f : Str} [A : PuE ta da] [B : PuE tv dv] : PuS (sFld K ta tv f) (sFldD K da dv f) := ⟨fun S M σ δ H nx rt bk ct E w e h l =>
  B.run S M σ δ H _ _ w e h fun d S1 M1 v H1 p1 t1 w1 h1 =>
    A.run S1 M1 σ δ H1 _ _ w1 (e.step w t1) p1 fun d2 S2 M2 v2 H2 p2 t2 w2 h2 => by
      obtain ⟨p, C, fs, rfl, hm, c, n, hl, p2⟩ := p2
      cases h2
      obtain ⟨sp, dx, gs, ha, hn, hs⟩ := w2.mem p _ hm
      have hv := dt_step w1 t2 _ h1
      have ex : Ext S2 H2 (upd H2 p (.ins C dx (putF f v gs))) := Ext.mut (Ext.refl _) sp
      obtain ⟨q1, q2⟩ := put_held (f := f) hv hn hs
      have t3 : Step S2 M2 H2 S2 (mset M2 p (.ins C (putD f d fs))) (upd H2 p (.ins C dx (putF f v gs))) := .change hm
      exact ⟨p, C, dx, gs, rfl, ha, c, n, by rw [map_len hn]; exact hl, l.nx _ _ _ _ _ p2 ((t1.trans t2).trans t3) (w2.change hm ⟨dx, _, upd_same, q1, q2.go ex⟩) (e.step w ((t1.trans t2).trans t3))⟩⟩
/-- while: by an invariant that falls -/
def sWhile (c : DT) (b : DS) : DS := fun nx rt _ _ δ M => ∃ W : Nat → QS, (∃ m, W m δ M) ∧ ∀ m δ M, W m δ M →
  c δ M fun k M1 => if k = true then b (fun δ' M' => ∃ m', m' < m ∧ W m' δ' M') rt nx (fun δ' M' => ∃ m', m' < m ∧ W m' δ' M') δ M1 else nx δ M1
instance pu_while {c : TT} {t : TS} {dc : DT} {dt : DS} [C : PuT c dc] [B : PuS t dt] : PuS (tWhile c t) (sWhile dc dt) := ⟨fun S M σ δ H nx rt bk ct E w e h l => by
  obtain ⟨W, ⟨m0, h0⟩, turn⟩ := h
  refine ⟨fun m σ' H' => ∃ S' M' δ', W m δ' M' ∧ Step S M H S' M' H' ∧ Wo S' M' H' ∧ En S' H' σ' δ', ⟨m0, S, M, δ, h0, .refl, w, e⟩, ?_⟩
  rintro m σ1 H1 ⟨S1, M1, δ1, hW, t1, w1, e1⟩
  refine C.run S1 M1 σ1 δ1 H1 _ _ w1 e1 (turn m δ1 M1 hW) fun b S2 M2 H2 p2 t2 w2 => ?_
  cases b with
  | true =>
    rw [if_pos rfl] at p2 ⊢
    refine ⟨fun σ' H' => ∃ m', m' < m ∧ ∃ S' M' δ', W m' δ' M' ∧ Step S M H S' M' H' ∧ Wo S' M' H' ∧ En S' H' σ' δ', fun σ' H' q => q, ?_⟩
    have t12 := t1.trans t2
    refine B.run S2 M2 σ1 δ1 H2 _ _ _ _ _ w2 (e1.step w1 t2) p2 ⟨?_, l.rt.go t12, fun a b c d e p t3 w f => l.nx a b c d e p (t12.trans t3) w f, ?_⟩
    · rintro δ3 S3 M3 σ3 H3 ⟨m', hm, q⟩ t3 w3 e3
      exact ⟨m', hm, S3, M3, δ3, q, t12.trans t3, w3, e3⟩
    · rintro δ3 S3 M3 σ3 H3 ⟨m', hm, q⟩ t3 w3 e3
      exact ⟨m', hm, S3, M3, δ3, q, t12.trans t3, w3, e3⟩
  | false =>
    rw [if_neg Bool.false_ne_true] at p2 ⊢
    exact l.nx _ S2 M2 _ H2 p2 (t1.trans t2) w2 (e1.step w1 t2)⟩
/-- J walks these data, while G stands -/
structure Walks (J : It) (G : Mem → Prop) (S : Addr → Prop) (M : Mem) (H : Hp) (xs : List D) : Prop where
  stop : ∀ S' M' H', Step S M H S' M' H' → Wo S' M' H' → G M' → J.stop xs.length H'
  go : ∀ i S' M' H', i < xs.length → Step S M H S' M' H' → Wo S' M' H' → G M' → J.go i H'
  yld : ∀ i S' M' H' x H2, i < xs.length → Step S M H S' M' H' → Wo S' M' H' → G M' → J.yld i H' x H2 → Same H' H2 ∧ ∃ d, xs[i]? = some d ∧ Dt S' H2 x d
abbrev DI := Dl → Mem → ((Mem → Prop) → List D → Mem → Prop) → Prop
class PuI (t : TI) (dt : outParam DI) : Prop where
  run : ∀ S M σ δ H (P : (Mem → Prop) → List D → Mem → Prop) (R : It → Hp → Prop), Wo S M H → En S H σ δ → dt δ M P → (∀ G xs S' M' H' J, P G xs M' → Step S M H S' M' H' → Wo S' M' H' → Walks J G S' M' H' xs → R J H') → t σ H R
def rDiL (x : D) (M : Mem) (P : (Mem → Prop) → List D → Mem → Prop) : Prop := (∃ xs, x = .lst xs ∧ P (fun _ => True) xs M) ∨ ∃ p xs, x = .ptr p ∧ M p = some (.lst xs) ∧ P (fun M => M p = some (.lst xs)) xs M
def diL (a : DE) : DI := fun δ M P => a δ M fun x M1 => rDiL x M1 P
def diT (a : DE) : DI := fun δ M P => a δ M fun x M1 => ∃ xs, isTF x xs ∧ P (fun _ => True) xs M1
def diS (a : DE) : DI := fun δ M P => a δ M fun x M1 => ∃ z, x = .str z ∧ P (fun _ => True) ((cd z).map sgn) M1
def diR1 (a : DA) : DI := fun δ M P => a δ M fun xs M1 => ∃ j : Int, xs = [.int j] ∧ -(2 ^ 62) ≤ j ∧ j < 2 ^ 62 ∧ P (fun _ => True) (rgD 0 j) M1
def diR2 (a : DA) : DI := fun δ M P => a δ M fun xs M1 => ∃ i j : Int, xs = [.int i, .int j] ∧ (-(2 ^ 62) ≤ i ∧ i < 2 ^ 62 ∧ -(2 ^ 62) ≤ j ∧ j < 2 ^ 62) ∧ P (fun _ => True) (rgD i j) M1
section
variable {S S' : Addr → Prop} {M M' : Mem} {H H' : Hp} {K : PySem.W.Frag}
theorem at_some {α : Type} {xs : List α} {i : Nat} (h : i < xs.length) : xs[i]? = some xs[i] := by simp [h]
theorem walks_list {a : Addr} {vs : List V} {xs : List D} {G : Mem → Prop} (q : ∀ S' M' H', Step S M H S' M' H' → Wo S' M' H' → G M' → ∃ vs, H' a = some (.lst vs) ∧ DtA S' H' vs xs) : Walks (Itl K a) G S M H xs where
  stop S' M' H' t w g := by
    obtain ⟨vs, h1, h2⟩ := q S' M' H' t w g
    exact ⟨vs, SqL.of h1, by rw [h2.length]; exact Nat.le_refl _⟩
  go i S' M' H' hi t w g := by
    obtain ⟨vs, h1, h2⟩ := q S' M' H' t w g
    have hl := h2.length
    exact ⟨vs, vs[i], SqL.of h1, at_some (by omega)⟩
  yld i S' M' H' x H2 hi t w g y := by
    obtain ⟨vs, h1, h2⟩ := q S' M' H' t w g
    obtain ⟨rfl, y⟩ := y
    obtain ⟨d, e1, e2⟩ := h2.getV (y vs (SqL.of h1))
    exact ⟨Same.refl _, d, e1, e2⟩
theorem walks_tf {a : Addr} {vs : List V} {xs : List D} {G : Mem → Prop} (q : ∀ S' M' H', Step S M H S' M' H' → Wo S' M' H' → G M' → ∃ vs, Rd H' a (.tup vs) ∧ DtA S' H' vs xs) : Walks (Itt K a) G S M H xs where
  stop S' M' H' t w g := by
    obtain ⟨vs, h1, h2⟩ := q S' M' H' t w g
    exact ⟨vs, Or.inl h1, by rw [h2.length]; exact Nat.le_refl _⟩
  go i S' M' H' hi t w g := by
    obtain ⟨vs, h1, h2⟩ := q S' M' H' t w g
    have hl := h2.length
    exact ⟨vs, vs[i], Or.inl h1, at_some (by omega)⟩
  yld i S' M' H' x H2 hi t w g y := by
    obtain ⟨vs, h1, h2⟩ := q S' M' H' t w g
    obtain ⟨rfl, y⟩ := y
    obtain ⟨d, e1, e2⟩ := h2.getV (y vs (Or.inl h1))
    exact ⟨Same.refl _, d, e1, e2⟩
theorem stay_lst (w : Wo S M H) {a : Addr} {xs : List D} (h : Dt S H (.ref a) (.lst xs)) : ∀ S' M' H', Step S M H S' M' H' → Wo S' M' H' → True → ∃ vs, H' a = some (.lst vs) ∧ DtA S' H' vs xs := fun S' M' H' t w' _ => by
  have h' := dt_step w t _ h
  cases h' with
  | lst n ha hs => exact ⟨_, ha, hs⟩
theorem stay_tup (w : Wo S M H) {a : Addr} {xs : List D} (h : Dt S H (.ref a) (.tup xs)) : ∀ S' M' H', Step S M H S' M' H' → Wo S' M' H' → True → ∃ vs, H' a = some (.tup vs) ∧ DtA S' H' vs xs := fun S' M' H' t w' _ => by
  have h' := dt_step w t _ h
  cases h' with
  | tup n ha hs => exact ⟨_, ha, hs⟩
theorem stay_tf (w : Wo S M H) {a : Addr} {x : D} {xs : List D} (h : Dt S H (.ref a) x) (e : isTF x xs) : ∀ S' M' H', Step S M H S' M' H' → Wo S' M' H' → True → ∃ vs, Rd H' a (.tup vs) ∧ DtA S' H' vs xs := fun S' M' H' t w' _ => by
  have h' := dt_step w t _ h
  obtain ⟨b, vs, e1, n, ha, hs⟩ := tf_get h' e
  cases e1
  exact ⟨vs, ha, hs⟩
theorem rgD_get {i j : Int} {k : Nat} (h : k < (rgD i j).length) : (rgD i j)[k]? = some (.int (i + (k : Nat))) := by
  unfold rgD at h ⊢
  rw [List.length_map, List.length_range] at h
  rw [List.getElem?_map, List.getElem?_range h]
  rfl
theorem rgD_len (i j : Int) : (rgD i j).length = (j - i).toNat := by unfold rgD; rw [List.length_map, List.length_range]
theorem walks_rng {lo hi : Int} {n : Nat} (hn : (hi - lo).toNat = n) {G : Mem → Prop} : Walks (Itr lo n) G S M H (rgD lo hi) where
  stop S' M' H' t w g := by rw [rgD_len, hn]; exact Nat.le_refl n
  go i S' M' H' hi t w g := by rw [rgD_len, hn] at hi; exact hi
  yld i S' M' H' x H2 hi t w g y := by
    obtain ⟨rfl, rfl⟩ := y
    exact ⟨Same.refl _, _, rgD_get hi, .int _⟩
theorem walks_str {z : Str} {G : Mem → Prop} : Walks (Its z) G S M H ((cd z).map sgn) where
  stop S' M' H' t w g := by rw [List.length_map]; show z.cps.size ≤ _; rw [cd_size]; exact Nat.le_refl _
  go i S' M' H' hi t w g := by rw [List.length_map] at hi; show i < z.cps.size; rw [cd_size]; exact hi
  yld i S' M' H' x H2 hi t w g y := by
    obtain ⟨rfl, c, hc, rfl⟩ := y
    refine ⟨Same.refl _, sgn c, ?_, .str _⟩
    rw [List.getElem?_map, cd_get hc]
    rfl
end
section
variable {ta : TE} {da : DE} {K : PySem.W.Frag} {tt : TA} {dd : DA}
instance pu_iL [A : PuE ta da] : PuI (iList K ta) (diL da) := ⟨fun S M σ δ H P R w e h k =>
  A.run S M σ δ H _ _ w e h fun d S1 M1 v H1 p1 t1 w1 h1 => by
    rcases p1 with ⟨xs, rfl, p1⟩ | ⟨p, xs, rfl, hm, p1⟩
    · cases h1 with
      | lst n ha hs => exact ⟨_, rfl, ⟨_, SqL.of ha⟩, k _ xs S1 M1 H1 _ p1 t1 w1 (walks_list (vs := []) (stay_lst w1 (.lst n ha hs)))⟩
    · cases h1
      obtain ⟨_, vs, ha, hs⟩ := w1.mem p _ hm
      refine ⟨_, rfl, ⟨_, SqL.of ha⟩, k _ xs S1 M1 H1 _ p1 t1 w1 (walks_list (vs := []) fun S' M' H' t w' g => ?_)⟩
      obtain ⟨_, vs, h1, h2⟩ := w'.mem p _ g
      exact ⟨vs, h1, h2⟩⟩
instance pu_iT [A : PuE ta da] : PuI (iTup K ta) (diT da) := ⟨fun S M σ δ H P R w e h k =>
  A.run S M σ δ H _ _ w e h fun d S1 M1 v H1 p1 t1 w1 h1 => by
    obtain ⟨xs, hx, p1⟩ := p1
    obtain ⟨a, vs, rfl, n, ha, hs⟩ := tf_get h1 hx
    exact ⟨_, rfl, ⟨_, Or.inl ha⟩, k _ xs S1 M1 H1 _ p1 t1 w1 (walks_tf (vs := []) (stay_tf w1 h1 hx))⟩⟩
instance pu_iS [A : PuE ta da] : PuI (iStr ta) (diS da) := ⟨fun S M σ δ H P R w e h k =>
  A.run S M σ δ H _ _ w e h fun d S1 M1 v H1 p1 t1 w1 h1 => by
    obtain ⟨z, rfl, p1⟩ := p1
    cases h1
    exact ⟨z, rfl, k _ _ S1 M1 H1 _ p1 t1 w1 walks_str⟩⟩
instance pu_iR1 [A : PuA tt dd] : PuI (iRng1 tt) (diR1 dd) := ⟨fun S M σ δ H P R w e h k =>
  A.run S M σ δ H _ _ w e h fun d S1 M1 v H1 p1 t1 w1 h1 => by
    obtain ⟨j, rfl, b1, b2, p1⟩ := p1
    match v, h1 with
    | [_], .cons (.int _) .nil => exact ⟨j, rfl, b1, b2, k _ _ S1 M1 H1 _ p1 t1 w1 (walks_rng (by rw [Int.sub_zero]))⟩⟩
instance pu_iR2 [A : PuA tt dd] : PuI (iRng2 tt) (diR2 dd) := ⟨fun S M σ δ H P R w e h k =>
  A.run S M σ δ H _ _ w e h fun d S1 M1 v H1 p1 t1 w1 h1 => by
    obtain ⟨i, j, rfl, b, p1⟩ := p1
    match v, h1 with
    | [_, _], .cons (.int _) (.cons (.int _) .nil) => exact ⟨i, j, rfl, b, k _ _ S1 M1 H1 _ p1 t1 w1 (walks_rng rfl)⟩⟩
end
/-- the turns that are left -/
def dLoop (G : Mem → Prop) (g : DG) (b : DS) (nx : QS) (rt : QD) : List D → QS
  | [], δ, M => nx δ M
  | x :: xs, δ, M => g x δ M fun δ1 M1 => b (fun δ' M' => G M' ∧ dLoop G g b nx rt xs δ' M') rt nx (fun δ' M' => G M' ∧ dLoop G g b nx rt xs δ' M') δ1 M1
def sFor (i : DI) (g : DG) (b : DS) : DS := fun nx rt _ _ δ M => i δ M fun G xs M1 => G M1 ∧ dLoop G g b nx rt xs δ M1
theorem drop_cons {α : Type} {xs : List α} {i : Nat} {x : α} (h : xs[i]? = some x) : xs.drop i = x :: xs.drop (i + 1) := by
  obtain ⟨hi, rfl⟩ := List.getElem?_eq_some_iff.mp h
  exact List.drop_eq_getElem_cons hi
instance pu_for {ti : TI} {g : TG} {t : TS} {di : DI} {dg : DG} {dt : DS} {sl : List Nat} [I : PuI ti di] [A : PuG g dg sl] [B : PuS t dt] : PuS (tFor ti g t) (sFor di dg dt) := ⟨fun S M σ δ H nx rt bk ct E w e h l =>
  I.run S M σ δ H _ _ w e h fun G xs S1 M1 H1 J p1 t1 w1 wk => by
    refine ⟨fun i m σ' H' => i ≤ xs.length ∧ m = xs.length - i ∧ ∃ S' M' δ', G M' ∧ dLoop G dg dt nx rt (xs.drop i) δ' M' ∧ Step S1 M1 H1 S' M' H' ∧ Wo S' M' H' ∧ En S' H' σ' δ', ⟨_, Nat.zero_le _, rfl, S1, M1, δ, p1.1, p1.2, .refl, w1, e.step w t1⟩, ?_⟩
    rintro i m σ2 H2 ⟨hi, rfl, S2, M2, δ2, g2, p2, t2, w2, e2⟩
    by_cases hlt : i < xs.length
    · refine .inr ⟨wk.go i S2 M2 H2 hlt t2 w2 g2, fun σ' H' => ∃ S' M' δ', G M' ∧ dLoop G dg dt nx rt (xs.drop (i + 1)) δ' M' ∧ Step S1 M1 H1 S' M' H' ∧ Wo S' M' H' ∧ En S' H' σ' δ', ?_, ?_⟩
      · rintro σ' H' q
        exact ⟨_, by omega, hlt, rfl, q⟩
      · intro x H3 y
        obtain ⟨same, d, hd, hx⟩ := wk.yld i S2 M2 H2 x H3 hlt t2 w2 g2 y
        rw [drop_cons hd] at p2
        have t3 : Step S2 M2 H2 S2 M2 H3 := .same same
        have w3 := w2.same same
        refine A.run S2 M2 σ2 δ2 H3 x d _ _ w3 (e2.step w2 t3) hx p2 fun δ4 S4 M4 σ4 H4 p4 t4 w4 e4 _ => ?_
        have t14 := (t2.trans t3).trans t4
        refine B.run S4 M4 σ4 δ4 H4 _ _ _ _ _ w4 e4 p4 ⟨?_, l.rt.go (t1.trans t14), fun a b c d e p t5 w f => l.nx a b c d e p ((t1.trans t14).trans t5) w f, ?_⟩
        · rintro δ5 S5 M5 σ5 H5 ⟨g5, p5⟩ t5 w5 e5
          exact ⟨S5, M5, δ5, g5, p5, t14.trans t5, w5, e5⟩
        · rintro δ5 S5 M5 σ5 H5 ⟨g5, p5⟩ t5 w5 e5
          exact ⟨S5, M5, δ5, g5, p5, t14.trans t5, w5, e5⟩
    · have ei : i = xs.length := by omega
      subst ei
      rw [List.drop_length] at p2
      exact .inl ⟨wk.stop S2 M2 H2 t2 w2 g2, l.nx _ S2 M2 _ H2 p2 (t1.trans t2) w2 e2⟩⟩
def dGather (G : Mem → Prop) (g : DG) (t : DT) (a : DE) (vs : List Nat) (δ : Dl) (P : QD) : List D → List D → Mem → Prop
  | [], acc, M => P (.lst acc) M
  | x :: xs, acc, M => g x (wipeD δ vs) M fun δ1 M1 => t δ1 M1 fun b M2 => if b = true then a δ1 M2 fun y M3 => G M3 ∧ dGather G g t a vs δ P xs (acc ++ [y]) M3 else G M2 ∧ dGather G g t a vs δ P xs acc M2
def dLc (i : DI) (g : DG) (t : DT) (a : DE) (vs : List Nat) : DE := fun δ M P => i δ M fun G xs M1 => G M1 ∧ xs.length ≤ 16777216 ∧ dGather G g t a vs δ P xs [] M1
class MemL (i : Nat) (vs : List Nat) : Prop where
  h : i ∈ vs
instance memL_h {i : Nat} {vs : List Nat} : MemL i (i :: vs) := ⟨List.mem_cons_self⟩
instance memL_t {i j : Nat} {vs : List Nat} [A : MemL i vs] : MemL i (j :: vs) := ⟨List.mem_cons_of_mem _ A.h⟩
instance memL_mh {i : Nat} {n : Str} {l : List (Str × Nat)} : MemL i (List.map (fun x => x.2) ((n, i) :: l)) := ⟨by simp⟩
instance memL_mt {i j : Nat} {n : Str} {l : List (Str × Nat)} [A : MemL i (List.map (fun x => x.2) l)] : MemL i (List.map (fun x => x.2) ((n, j) :: l)) := ⟨List.mem_cons_of_mem _ A.h⟩
class SubL (sl vs : List Nat) : Prop where
  h : ∀ i ∈ sl, i ∈ vs
instance subL_nil {vs : List Nat} : SubL [] vs := ⟨fun _ h => by cases h⟩
instance subL_cons {i : Nat} {sl vs : List Nat} [A : MemL i vs] [B : SubL sl vs] : SubL (i :: sl) vs := ⟨fun j h => (List.mem_cons.mp h).elim (fun e => by rw [e]; exact A.h) (B.h j)⟩
instance subL_app {s1 s2 vs : List Nat} [A : SubL s1 vs] [B : SubL s2 vs] : SubL (s1 ++ s2) vs := ⟨fun j h => (List.mem_append.mp h).elim (A.h j) (B.h j)⟩
def dYes : DT := fun _ M P => P true M
instance pu_yes : PuT tYes dYes := ⟨fun S M σ δ H P Q w e h k => k _ S M H h .refl w⟩
theorem wipe_wipe (σ : L2.St) (vs : List Nat) : L2.wipe (L2.wipe σ vs) vs = L2.wipe σ vs := by
  have : ∀ (us : List Nat), (∀ i ∈ us, i ∈ vs) → L2.wipe (L2.wipe σ us) vs = L2.wipe σ vs := by
    intro us
    induction us with
    | nil => intro _; rfl
    | cons u us ih =>
      intro h
      rw [show L2.wipe σ (u :: us) = (L2.wipe σ us).set u none from rfl, wipe_set _ _ _ _ (h u List.mem_cons_self)]
      exact ih fun i hi => h i (List.mem_cons_of_mem _ hi)
  exact this vs fun _ h => h
instance pu_lc {ti : TI} {g : TG} {t : TT} {ta : TE} {di : DI} {dg : DG} {dt : DT} {da : DE} {sl vs : List Nat} [I : PuI ti di] [A : PuG g dg sl] [sub : SubL sl vs] [T : PuT t dt] [B : PuE ta da] : PuE (tLc ti g t ta vs) (dLc di dg dt da vs) := ⟨fun S M σ δ H P Q w e h k =>
  I.run S M σ δ H _ _ w e h fun G xs S1 M1 H1 J p1 t1 w1 wk => by
    intro D0 hD
    obtain ⟨g1, hn, p1⟩ := p1
    -- what stands between the turns
    let Iv : Nat → Hp → Prop := fun i H' => ∃ S' M' acc ws, G M' ∧ dGather G dg dt da vs δ P (xs.drop i) acc M' ∧ Step S1 M1 H1 S' M' H' ∧ Wo S' M' H' ∧ En S' H' σ δ ∧ S' D0 ∧ M' D0 = none ∧ H' D0 = some (.lst ws) ∧ DtA S' H' ws acc ∧ acc.length ≤ i
    refine ⟨fun i m H' => i ≤ xs.length ∧ m = xs.length - i ∧ Iv i H', ⟨_, Nat.zero_le _, rfl, (fun a => S1 a ∨ a = D0), M1, [], [], g1, p1, .apart hD, w1.apart hD, (e.step w t1).step w1 (.apart hD), .inr rfl, w1.fresh hD, upd_same, .nil, Nat.zero_le _⟩, ?_⟩
    rintro i m H2 ⟨hi, rfl, S2, M2, acc, ws, g2, p2, t2, w2, e2, sD, mD, hL, hA, hlen⟩
    by_cases hlt : i < xs.length
    · refine .inr ⟨wk.go i S2 M2 H2 hlt t2 w2 g2, Iv (i + 1), fun H' q => ⟨_, by omega, hlt, rfl, q⟩, ?_⟩
      intro x H3 y
      obtain ⟨same, d, hd, hx⟩ := wk.yld i S2 M2 H2 x H3 hlt t2 w2 g2 y
      rw [drop_cons hd] at p2
      have t3 : Step S2 M2 H2 S2 M2 H3 := .same same
      have w3 := w2.same same
      have e3 := e2.step w2 t3
      refine A.run S2 M2 _ _ H3 x d _ _ w3 (e3.wipe vs) hx p2 fun δ4 S4 M4 σ4 H4 p4 t4 w4 e4 o4 => ⟨by rw [o4 vs sub.h, wipe_wipe], ?_⟩
      refine T.run S4 M4 σ4 δ4 H4 _ _ w4 e4 p4 fun b S5 M5 H5 p5 t5 w5 => ?_
      have t25 := (t3.trans t4).trans t5
      obtain ⟨hL5, mD5, sD5⟩ := t25.keep _ _ mD hL
      have hA5 := dtA_step w2 t25 _ hA
      cases b with
      | true =>
        rw [if_pos rfl] at p5 ⊢
        refine B.run S5 M5 σ4 δ4 H5 _ _ w5 (e4.step w4 t5) p5 fun y S6 M6 v H6 p6 t6 w6 h6 => ?_
        obtain ⟨hL6, mD6, sD6⟩ := t6.keep _ _ mD5 hL5
        have hA6 := dtA_step w5 t6 _ hA5
        have sd : S6 D0 := sD6.mpr (sD5.mpr sD)
        have ex : Ext S6 H6 (upd H6 D0 (.lst (ws ++ [v]))) := Ext.mut (Ext.refl _) sd
        refine ⟨ws, hL6, by rw [hA.length]; exact Nat.lt_of_le_of_lt hlen (Nat.lt_of_lt_of_le hlt (by rw [sizeLine_eq]; exact hn)), S6, M6, acc ++ [y], ws ++ [v], p6.1, p6.2, ?_, ?_, ?_, sd, mD6, upd_same, (hA6.snoc h6).go ex, by rw [List.length_append, List.length_singleton]; omega⟩
        · have t16 := (t2.trans t25).trans t6
          refine ⟨fun b o n hb => ?_⟩
          obtain ⟨q1, q2, q3⟩ := t16.keep b o n hb
          exact ⟨(upd_ne (ne_of_none hb hD)).trans q1, q2, q3⟩
        · refine ⟨fun a s => ?_, fun a mo q => ?_⟩
          · by_cases c : a = D0
            · rw [c, upd_same]; exact fun z => nomatch z
            · rw [upd_ne c]; exact w6.tr a s
          · obtain ⟨s, q2⟩ := w6.mem a mo q
            have c : a ≠ D0 := by rintro rfl; rw [mD6] at q; cases q
            exact ⟨s, held_ext ex (fun u hu => (upd_ne c).trans hu) q2⟩
        · have e6 : En S6 H6 σ δ := e3.step w3 ((t4.trans t5).trans t6)
          exact ⟨e6.len, fun i d h => by
            obtain ⟨v, h1, h2⟩ := e6.at_ i d h
            exact ⟨v, h1, h2.go ex⟩⟩
      | false =>
        rw [if_neg Bool.false_ne_true] at p5 ⊢
        exact ⟨S5, M5, acc, ws, p5.1, p5.2, t2.trans t25, w5, e2.step w2 t25, sD5.mpr sD, mD5, hL5, hA5, by omega⟩
    · have ei : i = xs.length := by omega
      subst ei
      rw [List.drop_length] at p2
      refine .inl ⟨wk.stop S2 M2 H2 t2 w2 g2, k _ (fun a => S2 a ∧ a ≠ D0) M2 _ H2 p2 (t1.trans ⟨fun b o n hb => ?_⟩) ⟨fun a s => w2.tr a s.1, fun a mo q => ?_⟩ (.lst (fun z => z.2 rfl) hL (dtA_freeze hA))⟩
      · obtain ⟨q1, q2, q3⟩ := t2.keep b o n hb
        have c := ne_of_none hb hD
        exact ⟨q1, q2, ⟨fun z => q3.mp z.1, fun z => ⟨q3.mpr z, c⟩⟩⟩
      · obtain ⟨s, q2⟩ := w2.mem a mo q
        have c : a ≠ D0 := by rintro rfl; rw [mD] at q; cases q
        exact ⟨⟨s, c⟩, held_set (fun b n _ z => n z.1) q2⟩⟩
end V
namespace V
open PySem PySem.Spec PyProof.Rows L2 U StX
theorem pe_lstM {X : Cx} {es : List Expr} {t : TA} {pos : Pos} (h : PA X es t) : PE X (.List es pos) (tLstM t) := pe_lst h
def lift (sp : DC) : Sp := fun vs H Q E => ∃ S M ds P, Wo S M H ∧ DtA S H vs ds ∧ sp ds M P ∧ AtE S M H P Q
/-- an __init__ whose instance changes no more -/
def liftF (sp : DC) : Sp := lift sp
def startD (N : List Str) (ds : List D) : Dl := ds.map some ++ List.replicate (N.length - ds.length) none
theorem en_start {S : Addr → Prop} {H : Hp} (N : List Str) : ∀ {vs : List V} {ds : List D}, DtA S H vs ds → En S H (L2.start N vs) (startD N ds) := by
  intro vs ds h
  have hl := h.length
  refine ⟨by unfold L2.start startD; simp [hl], fun i d hi => ?_⟩
  unfold startD at hi
  unfold L2.start
  by_cases c : i < ds.length
  · rw [List.getElem?_append_left (by rw [List.length_map]; exact c), List.getElem?_map] at hi
    obtain ⟨d', h1, h2⟩ := Option.map_eq_some_iff.mp hi
    cases h2
    obtain ⟨v, h3, h4⟩ := h.get h1
    refine ⟨v, ?_, h4⟩
    rw [List.getElem?_append_left (by rw [List.length_map]; omega), List.getElem?_map, h3]
    rfl
  · rw [List.getElem?_append_right (by rw [List.length_map]; omega), List.getElem?_replicate] at hi
    split at hi <;> cases hi
section
variable {P : Program} {w : World} {K : PySem.W.Frag} {mg : Str → Option Value} {base : Heap} {x qual : Str} {st : Stmt} {f : Addr} {fd : FuncData} {N ps : List Str} {k : Nat} {sp : DC}
theorem liftLen (len : ∀ ds M P, sp ds M P → ds.length = ps.length) : ∀ vs H Q E, lift sp vs H Q E → vs.length = ps.length := fun vs H Q E ⟨S, M, ds, P, _, h, p, _⟩ => by rw [h.length]; exact len ds M P p
theorem body_run {X : Cx} {body : List Stmt} {t : TS} {dt : DS} [A : PuS t dt] (go : ∀ ds M P, sp ds M P → dt (fun _ M' => P .non M') P (fun _ _ => False) (fun _ _ => False) (startD N ds) M) {vs : List V} {H : Hp} {Q : VK} {E : XK} (h : lift sp vs H Q E) :
    t { nx := fun _ H' => Q .non H', rt := Q } (L2.start N vs) H := by
  obtain ⟨S, M, ds, P, w, h, p, k⟩ := h
  exact A.run S M _ _ H _ _ _ _ _ w (en_start N h) (go ds M P p) ⟨fun δ' S' M' σ' H' q t w e => k _ S' M' _ H' q t w .non, k, fun _ _ _ _ _ q => q.elim, fun _ _ _ _ _ q => q.elim⟩
theorem fnD (F : L2.Fun K x qual st f fd) (S : FnScope N ps (L2.defScope st)) (len : ∀ ds M P, sp ds M P → ds.length = ps.length)
    (hb : ∀ (cdv : Value) (A : Around) (outer : List Env) (s : Shared) (H : Hp) (E : XK), Room k (A.deeper (envOfC qual (L2.defScope st) s.heap.objs.size f cdv)) →
      ∃ t, PSs (cxOf L2.CX0 P w K mg base N qual (L2.defScope st) f cdv A outer s H E).nox (L2.defBody st) t ∧ ∃ dt, PuS t dt ∧ ∀ ds M P, sp ds M P → dt (fun _ M' => P .non M') P (fun _ _ => False) (fun _ _ => False) (startD N ds) M) :
    FnOk P w K mg base L2.CX0 (k + 1) f fd ps (lift sp) :=
  F.ok S (liftLen len) fun cdv A outer s H vs Q E hr h => by
    obtain ⟨t, ht, dt, A, go⟩ := hb cdv A outer s H E hr
    exact ⟨t, ht, body_run (X := cxOf L2.CX0 P w K mg base N qual (L2.defScope st) f cdv ‹_› outer s H E) (body := L2.defBody st) go h⟩
theorem fn_weak {spA spB : Sp} {CX : CXT} (F : FnOk P w K mg base CX k f fd ps spA) (h : ∀ vs H Q E, spB vs H Q E → spA vs H Q E) : FnOk P w K mg base CX k f fd ps spB :=
  ⟨fun vs H Q E q => F.len vs H Q E (h vs H Q E q), fun A outer s H args us vs Q E hr e0 hb r hsp => F.run A outer s H args us vs Q E hr e0 hb r (h _ _ _ _ hsp)⟩
theorem fnG_weak {spA spB : Sp} (F : FnG P w K mg base k f fd ps spA) (h : ∀ vs H Q E, spB vs H Q E → spA vs H Q E) : FnG P w K mg base k f fd ps spB :=
  ⟨fun vs H Q E q => F.len vs H Q E (h vs H Q E q), fun A outer s H args us vs Q E hr hg e0 hb r hsp => F.run A outer s H args us vs Q E hr hg e0 hb r (h _ _ _ _ hsp)⟩
end
def dCall (sp : DC) (t : DA) : DE := fun δ M P => t δ M fun ds M1 => sp ds M1 P
class RelG (gV : List V → List V → List V) (gD : outParam (List D → List D → List D)) : Prop where
  run : ∀ S H vs ds zs es, DtA S H vs ds → DtA S H zs es → DtA S H (gV vs zs) (gD ds es)
instance relG_0 : RelG (fun us ws => us ++ pk0 ws) (fun us ws => us ++ pk0 ws) := ⟨fun _ _ _ _ _ _ h k => h.append k⟩
instance relG_01 : RelG (fun us ws => us ++ pk0_1 ws) (fun us ws => us ++ pk0_1 ws) := ⟨fun _ _ _ _ _ _ h k => h.append k⟩
theorem pk1_0_dt {S : Addr → Prop} {H : Hp} {zs : List V} {es : List D} (k : DtA S H zs es) : DtA S H (pk1_0 zs) (pk1_0 es) := by
  match zs, es, k with
  | [], [], .nil => exact .nil
  | [_], [_], .cons a .nil => exact .cons a .nil
  | [_, _], [_, _], .cons a (.cons b .nil) => exact .cons b (.cons a .nil)
  | _ :: _ :: _ :: _, _ :: _ :: _ :: _, .cons a (.cons b (.cons c t)) => exact .cons a (.cons b (.cons c t))
theorem pk2_1_0_dt {S : Addr → Prop} {H : Hp} {zs : List V} {es : List D} (k : DtA S H zs es) : DtA S H (pk2_1_0 zs) (pk2_1_0 es) := by
  match zs, es, k with
  | [], [], .nil => exact .nil
  | [_], [_], .cons a .nil => exact .cons a .nil
  | [_, _], [_, _], .cons a (.cons b .nil) => exact .cons a (.cons b .nil)
  | [_, _, _], [_, _, _], .cons a (.cons b (.cons c .nil)) => exact .cons c (.cons b (.cons a .nil))
  | _ :: _ :: _ :: _ :: _, _ :: _ :: _ :: _ :: _, .cons a (.cons b (.cons c (.cons d t))) => exact .cons a (.cons b (.cons c (.cons d t)))
theorem pk3_2_1_0_dt {S : Addr → Prop} {H : Hp} {zs : List V} {es : List D} (k : DtA S H zs es) : DtA S H (pk3_2_1_0 zs) (pk3_2_1_0 es) := by
  match zs, es, k with
  | [], [], .nil => exact .nil
  | [_], [_], .cons a .nil => exact .cons a .nil
  | [_, _], [_, _], .cons a (.cons b .nil) => exact .cons a (.cons b .nil)
  | [_, _, _], [_, _, _], .cons a (.cons b (.cons c .nil)) => exact .cons a (.cons b (.cons c .nil))
  | [_, _, _, _], [_, _, _, _], .cons a (.cons b (.cons c (.cons d .nil))) => exact .cons d (.cons c (.cons b (.cons a .nil)))
  | _ :: _ :: _ :: _ :: _ :: _, _ :: _ :: _ :: _ :: _ :: _, .cons a (.cons b (.cons c (.cons d (.cons e t)))) => exact .cons a (.cons b (.cons c (.cons d (.cons e t))))
instance relG_10 : RelG (fun us ws => us ++ pk1_0 ws) (fun us ws => us ++ pk1_0 ws) := ⟨fun _ _ _ _ _ _ h k => h.append (pk1_0_dt k)⟩
instance relG_210 : RelG (fun us ws => us ++ pk2_1_0 ws) (fun us ws => us ++ pk2_1_0 ws) := ⟨fun _ _ _ _ _ _ h k => h.append (pk2_1_0_dt k)⟩
instance relG_3210 : RelG (fun us ws => us ++ pk3_2_1_0 ws) (fun us ws => us ++ pk3_2_1_0 ws) := ⟨fun _ _ _ _ _ _ h k => h.append (pk3_2_1_0_dt k)⟩
def dCallN (n m : Nat) (sp : DC) (g : List D → List D → List D) (t tk : DA) : DE := fun δ M P => t δ M fun ds M1 => tk δ M1 fun es M2 => ds.length = n ∧ es.length = m ∧ sp (g ds es) M2 P
def dMeth (C : Addr) (m : Str) (sp : DC) (a : DE) (t : DA) : DE := fun δ M P => a δ M fun x M1 => (∃ ns xs, isIn M1 x C ns xs ∧ m ∉ ns) ∧ t δ M1 fun ds M2 => sp (x :: ds) M2 P
/-- a new instance -/
def rMake (C : Addr) (sp : DC) : DC := fun ds M P => ∀ x, M x = none → sp (.ptr x :: ds) (mset M x (.ins C [])) fun d M2 => d = .non ∧ P (.ptr x) M2
def rMakeF (C : Addr) (sp : DC) : DC := fun ds M P => ∀ x, M x = none → sp (.ptr x :: ds) (mset M x (.ins C [])) fun d M2 => d = .non ∧ ∃ fs, M2 x = some (.ins C fs) ∧ P (.ins C (fs.map (·.1)) (fs.map (·.2))) (mdel M2 x)
def dMakeK (r : DC) (g : List D → List D) (n : Nat) (tk : DA) : DE := fun δ M P => tk δ M fun es M1 => es.length = n ∧ r (g es) M1 P
section
variable {t tk : TA} {dt dk : DA} {ta : TE} {da : DE} {sp : DC} {E : XK} {C : Addr} {m : Str}
instance pu_call [A : PuA t dt] : PuE (tCall (lift sp) [] E t) (dCall sp dt) := ⟨fun S M σ δ H P Q w e h k =>
  A.run S M σ δ H _ _ w e h fun ds S1 M1 vs H1 p1 t1 w1 h1 => by
    rw [List.append_nil]
    exact ⟨S1, M1, ds, P, w1, h1, p1, k.go t1⟩⟩
instance pu_callN {n l : Nat} {gV : List V → List V → List V} {gD : List D → List D → List D} [A : PuA t dt] [B : PuA tk dk] [G : RelG gV gD] : PuE (tCallN n l (lift sp) gV E t tk) (dCallN n l sp gD dt dk) := ⟨fun S M σ δ H P Q w e h k =>
  A.run S M σ δ H _ _ w e h fun ds S1 M1 vs H1 p1 t1 w1 h1 =>
    B.run S1 M1 σ δ H1 _ _ w1 (e.step w t1) p1 fun es S2 M2 zs H2 p2 t2 w2 h2 => by
      obtain ⟨l1, l2, p2⟩ := p2
      exact ⟨by rw [h1.length]; exact l1, by rw [h2.length]; exact l2, S2, M2, _, P, w2, G.run S2 H2 _ _ _ _ (dtA_step w1 t2 _ h1) h2, p2, k.go (t1.trans t2)⟩⟩
theorem lookup_none {fs : List (Str × V)} (h : m ∉ fs.map (·.1)) : fs.lookup m = none := by
  induction fs with
  | nil => rfl
  | cons p fs ih =>
    rw [List.map_cons, List.mem_cons, not_or] at h
    obtain ⟨a, b⟩ := p
    rw [List.lookup_cons]
    have : (m == a) = false := by simpa using h.1
    simp only [this]
    exact ih h.2
instance pu_meth [A : PuE ta da] [B : PuA t dt] : PuE (tMeth C m (lift sp) [] E ta t) (dMeth C m sp da dt) := ⟨fun S M σ δ H P Q w e h k =>
  A.run S M σ δ H _ _ w e h fun d S1 M1 v H1 p1 t1 w1 h1 => by
    obtain ⟨⟨ns, xs, hi, hm⟩, p1⟩ := p1
    obtain ⟨a, dx, fs, rfl, ha, hn, hs⟩ := in_get w1 h1 hi
    refine ⟨a, dx, fs, rfl, ha, lookup_none (by rw [hn]; exact hm), B.run S1 M1 σ δ H1 _ _ w1 (e.step w t1) p1 fun ds S2 M2 vs H2 p2 t2 w2 h2 => ?_⟩
    rw [List.append_nil]
    exact ⟨S2, M2, d :: ds, P, w2, .cons (dt_step w1 t2 _ h1) h2, p2, k.go (t1.trans t2)⟩⟩
theorem new_ins {S : Addr → Prop} {M : Mem} {H : Hp} (w : Wo S M H) {x dx : Addr} (nx : H x = none) (nd : H dx = none) (ne : dx ≠ x) :
    Wo (fun a => S a ∨ a = x) (mset M x (.ins C [])) (upd (upd H dx (.own x)) x (.ins C dx [])) ∧ Step S M H (fun a => S a ∨ a = x) (mset M x (.ins C [])) (upd (upd H dx (.own x)) x (.ins C dx [])) := by
  have w1 := w.new (o := .own x) nd
  have nx1 : upd H dx (.own x) x = none := by rw [upd_ne ne.symm]; exact nx
  exact ⟨w1.mutable nx1 ⟨dx, [], upd_same, rfl, .nil⟩, (Step.new nd).trans (.mutable w1 nx1)⟩
theorem make_go {S : Addr → Prop} {M : Mem} {H : Hp} {P : QD} {Q : VK} {vs : List V} {ds : List D} {x dx : Addr} (w : Wo S M H) (h : DtA S H vs ds) (p : rMake C sp ds M P) (k : AtE S M H P Q) (nx : H x = none) (nd : H dx = none) (ne : dx ≠ x) :
    lift sp (.ref x :: vs) (upd (upd H dx (.own x)) x (.ins C dx [])) (fun v H2 => v = .non ∧ Q (.ref x) H2) E := by
  obtain ⟨w1, t1⟩ := new_ins (C := C) w nx nd ne
  refine ⟨_, _, _, _, w1, .cons (.ptr x) (dtA_step w t1 _ h), p x (w.fresh nx), fun d S2 M2 v H2 q t2 w2 hv => ?_⟩
  obtain ⟨rfl, q⟩ := q
  cases hv
  exact ⟨rfl, k _ S2 M2 _ H2 q (t1.trans t2) w2 (.ptr x)⟩
theorem makeF_go {S : Addr → Prop} {M : Mem} {H : Hp} {P : QD} {Q : VK} {vs : List V} {ds : List D} {x dx : Addr} (w : Wo S M H) (h : DtA S H vs ds) (p : rMakeF C sp ds M P) (k : AtE S M H P Q) (nx : H x = none) (nd : H dx = none) (ne : dx ≠ x) :
    liftF sp (.ref x :: vs) (upd (upd H dx (.own x)) x (.ins C dx [])) (fun v H2 => v = .non ∧ Q (.ref x) H2) E := by
  obtain ⟨w1, t1⟩ := new_ins (C := C) w nx nd ne
  refine ⟨_, _, _, _, w1, .cons (.ptr x) (dtA_step w t1 _ h), p x (w.fresh nx), fun d S2 M2 v H2 q t2 w2 hv => ?_⟩
  obtain ⟨rfl, fs, hm, q⟩ := q
  cases hv
  obtain ⟨sx, dx', gs, ha, hn, hs⟩ := w2.mem x _ hm
  have t3 := (t1.trans t2).trans (Step.freeze (S := S2) (H := H2) hm)
  exact ⟨rfl, k _ _ _ _ H2 q t3 w2.freeze (.ins (fun z => z.2 rfl) ha hn (dtA_freeze hs))⟩
instance pu_make [A : PuA t dt] : PuE (tMake C (lift sp) [] E t) (dCB (rMake C sp) dt) := ⟨fun S M σ δ H P Q w e h k =>
  A.run S M σ δ H _ _ w e h fun ds S1 M1 vs H1 p1 t1 w1 h1 x dx nx nd ne => by
    rw [List.append_nil]
    exact make_go w1 h1 p1 (k.go t1) nx nd ne⟩
instance pu_makeF [A : PuA t dt] : PuE (tMake C (liftF sp) [] E t) (dCB (rMakeF C sp) dt) := ⟨fun S M σ δ H P Q w e h k =>
  A.run S M σ δ H _ _ w e h fun ds S1 M1 vs H1 p1 t1 w1 h1 x dx nx nd ne => by
    rw [List.append_nil]
    exact makeF_go w1 h1 p1 (k.go t1) nx nd ne⟩
def d3210 : List D → List D := pk3_2_1_0
def d10 : List D → List D := pk1_0
def d0 : List D → List D := pk0
instance pu_makeF3210 [B : PuA tk dk] : PuE (tMakeK C 0 4 (liftF sp) (fun us ws => us ++ pk3_2_1_0 ws) E tNil tk) (dMakeK (rMakeF C sp) d3210 4 dk) := ⟨fun S M σ δ H P Q w e h k =>
  B.run S M σ δ H _ _ w e h fun es S2 M2 zs H2 p2 t2 w2 h2 => ⟨rfl, by rw [h2.length]; exact p2.1, fun x dx nx nd ne => makeF_go w2 (pk3_2_1_0_dt h2) p2.2 (k.go t2) nx nd ne⟩⟩
instance pu_makeF10 [B : PuA tk dk] : PuE (tMakeK C 0 2 (liftF sp) (fun us ws => us ++ pk1_0 ws) E tNil tk) (dMakeK (rMakeF C sp) d10 2 dk) := ⟨fun S M σ δ H P Q w e h k =>
  B.run S M σ δ H _ _ w e h fun es S2 M2 zs H2 p2 t2 w2 h2 => ⟨rfl, by rw [h2.length]; exact p2.1, fun x dx nx nd ne => makeF_go w2 (pk1_0_dt h2) p2.2 (k.go t2) nx nd ne⟩⟩
instance pu_make0 [B : PuA tk dk] : PuE (tMakeK C 0 1 (lift sp) (fun us ws => us ++ pk0 ws) E tNil tk) (dMakeK (rMake C sp) d0 1 dk) := ⟨fun S M σ δ H P Q w e h k =>
  B.run S M σ δ H _ _ w e h fun es S2 M2 zs H2 p2 t2 w2 h2 => ⟨rfl, by rw [h2.length]; exact p2.1, fun x dx nx nd ne => make_go w2 h2 p2.2 (k.go t2) nx nd ne⟩⟩
end
def potD (p : Addr) : D := .opq p (potO p)
def spDrawD : DC := fun ds M P => ∃ p n, ds = [potD p, .int n] ∧ (0 < n ∧ n < 1073741824) ∧ ∀ r, 0 ≤ r → r < n → P (.int r) M
theorem draw_lift : ∀ vs H Q E, lift spDrawD vs H Q E → spDraw vs H Q E := by
  rintro vs H Q E ⟨S, M, ds, P, w, h, ⟨p, n, rfl, hn, q⟩, k⟩
  match vs, h with
  | [_, _], .cons (.opq np hp) (.cons (.int _) .nil) => exact ⟨p, n, rfl, hp, hn, fun r H' e h0 h1 => k _ S M _ H' (q r h0 h1) (.same e) (w.same e) (.int r)⟩
def spRightD : DC := fun ds M P => ∃ p, ds = [potD p] ∧ P (.bl true) M
theorem same_of_step {M' : Mem} {S' : Addr → Prop} {H H' : Hp} (t : Step N0 (fun _ => none) H S' M' H') : Same H H' := fun b o e => (t.keep b o rfl e).1
theorem wo_none (H : Hp) : Wo N0 (fun _ => none) H := ⟨fun _ h => h.elim, fun _ _ h => by cases h⟩
theorem right_lift : ∀ vs H Q E, (∃ p : Addr, vs = [.ref p] ∧ Pot H p ∧ ∀ H', Same H H' → Q (.bl true) H') → lift spRightD vs H Q E := by
  rintro vs H Q E ⟨p, rfl, hp, q⟩
  refine ⟨N0, fun _ => none, [potD p], fun d _ => d = .bl true, wo_none H, .cons (.opq (fun z => z) hp) .nil, ⟨p, rfl, rfl⟩, fun d S' M' v H' e t w h => ?_⟩
  subst e
  cases h
  exact q H' (same_of_step t)
section
variable {G : Mem → Prop} {g : DG} {b : DS} {nx : QS} {rt : QD} {xs : List D} {δ : Dl} {M : Mem}
theorem loop_inv (I : Nat → QS) (h0 : I 0 δ M)
    (step : ∀ i x δ M (Kc : QS), xs[i]? = some x → I i δ M → (∀ δ' M', G M' → I (i + 1) δ' M' → G M' ∧ Kc δ' M') → g x δ M fun δ1 M1 => b (fun δ' M' => G M' ∧ Kc δ' M') rt nx (fun δ' M' => G M' ∧ Kc δ' M') δ1 M1)
    (fin : ∀ δ M, I xs.length δ M → nx δ M) : dLoop G g b nx rt xs δ M := by
  have key : ∀ k i δ M, i + k = xs.length → I i δ M → dLoop G g b nx rt (xs.drop i) δ M := by
    intro k
    induction k with
    | zero =>
      intro i δ M e h
      have : i = xs.length := by omega
      subst this
      rw [List.drop_length]
      exact fin δ M h
    | succ k ih =>
      intro i δ M e h
      have hx := at_some (xs := xs) (i := i) (by omega)
      rw [drop_cons hx]
      exact step i _ δ M (dLoop G g b nx rt (xs.drop (i + 1))) hx h fun δ' M' g' h' => ⟨g', ih (i + 1) δ' M' (by omega) h'⟩
  exact key xs.length 0 δ M (by omega) h0
variable {t : DT} {a : DE} {vs : List Nat} {P : QD}
theorem gather_inv (I : Nat → List D → Mem → Prop) (h0 : I 0 [] M)
    (step : ∀ i x acc M (Ky : QD) (Kn : Mem → Prop), xs[i]? = some x → I i acc M → (∀ y M', G M' → I (i + 1) (acc ++ [y]) M' → G M' ∧ Ky y M') → (∀ M', G M' → I (i + 1) acc M' → G M' ∧ Kn M') →
      g x (wipeD δ vs) M fun δ1 M1 => t δ1 M1 fun b M2 => if b = true then a δ1 M2 fun y M3 => G M3 ∧ Ky y M3 else G M2 ∧ Kn M2)
    (fin : ∀ acc M, I xs.length acc M → P (.lst acc) M) : dGather G g t a vs δ P xs [] M := by
  have key : ∀ k i acc M, i + k = xs.length → I i acc M → dGather G g t a vs δ P (xs.drop i) acc M := by
    intro k
    induction k with
    | zero =>
      intro i acc M e h
      have : i = xs.length := by omega
      subst this
      rw [List.drop_length]
      exact fin acc M h
    | succ k ih =>
      intro i acc M e h
      have hx := at_some (xs := xs) (i := i) (by omega)
      rw [drop_cons hx]
      exact step i _ acc M (fun y M' => dGather G g t a vs δ P (xs.drop (i + 1)) (acc ++ [y]) M') (dGather G g t a vs δ P (xs.drop (i + 1)) acc) hx h (fun y M' g' h' => ⟨g', ih (i + 1) _ M' (by omega) h'⟩) fun M' g' h' => ⟨g', ih (i + 1) _ M' (by omega) h'⟩
  exact key xs.length 0 [] M (by omega) h0
/-- [f(x) for x in xs] -/
theorem gather_all {f : D → D}
    (step : ∀ x, x ∈ xs → ∀ (Ky : QD), Ky (f x) M → g x (wipeD δ vs) M fun δ1 M1 => a δ1 M1 Ky)
    (hG : G M) (fin : P (.lst (xs.map f)) M) : dGather G g dYes a vs δ P xs [] M := by
  refine gather_inv (fun i acc M' => M' = M ∧ acc = (xs.take i).map f) ⟨rfl, rfl⟩ ?_ ?_
  · rintro i x acc M' Ky Kn hx ⟨rfl, rfl⟩ hy hn
    refine step x (List.mem_of_getElem? hx) (fun y M3 => G M3 ∧ Ky y M3) (hy _ _ hG ⟨rfl, ?_⟩)
    rw [take_snoc hx, List.map_append]
    rfl
  · rintro acc M' ⟨rfl, rfl⟩
    rw [List.take_length]
    exact fin
end
section
variable {δ : Dl} {M : Mem} {P : QD} {a b c : DE} {t : DA} {s u : DS} {nx bk ct : QS} {rt : QD} {g : DG} {k k' : DT} {r r' : DR} {PB : Bool → Mem → Prop} {PA : List D → Mem → Prop} {i j : Nat}
theorem x_var {d : D} (h : δ[i]? = some (some d)) (p : P d M) : dVar i δ M P := ⟨d, h, p⟩
theorem x_c {d : D} (p : P d M) : dC d δ M P := p
theorem x_op (h : a δ M fun x M1 => b δ M1 fun y M2 => r x y M2 P) : dOp r a b δ M P := h
theorem x_nil (p : PA [] M) : dNil δ M PA := p
theorem x_cons (h : a δ M fun x M1 => t δ M1 fun xs M2 => PA (x :: xs) M2) : dCons a t δ M PA := h
theorem x_tup (h : t δ M fun xs M1 => xs.length ≤ sizeLine ∧ P (.tup xs) M1) : dTup t δ M P := h
theorem x_lst (h : t δ M fun xs M1 => xs.length ≤ sizeLine ∧ P (.lst xs) M1) : dLst t δ M P := h
theorem x_lstM (h : t δ M fun xs M1 => xs.length ≤ sizeLine ∧ ∀ a, M1 a = none → P (.ptr a) (mset M1 a (.lst xs))) : dLstM t δ M P := h
theorem x_if (h : k δ M fun q M1 => if q = true then a δ M1 P else b δ M1 P) : dIf k a b δ M P := h
theorem x_B (h : a δ M fun x M1 => ∃ b, x = .bl b ∧ PB b M1) : dB a δ M PB := h
theorem x_and (h : k δ M fun c M1 => if c = true then k' δ M1 PB else PB false M1) : dAnd k k' δ M PB := h
theorem x_or (h : k δ M fun c M1 => if c = true then PB true M1 else k' δ M1 PB) : dOr k k' δ M PB := h
theorem x_not (h : k δ M fun c M1 => PB (!c) M1) : dNot k δ M PB := h
theorem x_andV (h : a δ M fun x M1 => ∃ c, x = .bl c ∧ if c = true then b δ M1 P else P (.bl false) M1) : dAndV a b δ M P := h
theorem x_orV (h : a δ M fun x M1 => ∃ c, x = .bl c ∧ if c = true then P (.bl true) M1 else b δ M1 P) : dOrV a b δ M P := h
theorem x_notV (h : a δ M fun x M1 => ∃ c, x = .bl c ∧ P (.bl (!c)) M1) : dNotV a δ M P := h
theorem x_chain (h : a δ M fun x M1 => b δ M1 fun y M2 => r x y M2 fun z M3 => ∃ k, z = .bl k ∧ if k = true then c δ M3 fun w M4 => r' y w M4 P else P (.bl false) M3) : dChain r r' a b c δ M P := h
theorem x_cb {q : DC} (h : t δ M fun xs M1 => q xs M1 P) : dCB q t δ M P := h
theorem x_then {q : D → Mem → QD → Prop} (h : a δ M fun x M1 => q x M1 P) : dThen a q δ M P := h
theorem x_star (h : a δ M fun x M1 => ∃ xs, (isTF x xs ∨ x = .lst xs ∨ ∃ p, x = .ptr p ∧ M1 p = some (.lst xs)) ∧ t δ M1 fun ys M2 => PA (xs ++ ys) M2) : dStar a t δ M PA := h
theorem x_part {PO : Option Int → Mem → Prop} (h : a δ M fun x M1 => ∃ i, x = .int i ∧ PO (some i) M1) : dPart a δ M PO := h
theorem x_noPart {PO : Option Int → Mem → Prop} (h : PO none M) : dNoPart δ M PO := h
theorem x_sl {l h : DO} (q : a δ M fun x M1 => l δ M1 fun lo M2 => h δ M2 fun hi M3 => rSl1 x lo hi M3 P) : dSl a l h δ M P := q
theorem x_fld {K : PySem.W.Frag} {f : Str} (h : a δ M fun x M1 => rFld1 K f x M1 P) : dFld K a f δ M P := h
theorem x_fldI {K : PySem.W.Frag} {C : Addr} {ns : List Str} {ds : List D} {f : Str} {d : D} (k : Nat) (l1 : ns[k]? = some f) (l2 : ds[k]? = some d) (cl : Cls K C) (n : NoAttr K C f) (l0 : ns.Nodup) (p : P d M) : rFld1 K f (.ins C ns ds) M P := ⟨C, ns, ds, d, .inl rfl, cl, n, ⟨k, l0, l1, l2⟩, p⟩
theorem x_fldQ {K : PySem.W.Frag} {C p : Addr} {fs : List (Str × D)} {f : Str} {d : D} (k : Nat) (hm : M p = some (.ins C fs)) (l1 : (fs.map (·.1))[k]? = some f) (l2 : (fs.map (·.2))[k]? = some d) (cl : Cls K C) (n : NoAttr K C f) (l0 : (fs.map (·.1)).Nodup) (q : P d M) : rFld1 K f (.ptr p) M P :=
  ⟨C, _, _, d, .inr ⟨p, fs, rfl, hm, rfl, rfl⟩, cl, n, ⟨k, l0, l1, l2⟩, q⟩
theorem x_sfld {K : PySem.W.Frag} {f : Str} (h : b δ M fun y M1 => a δ M1 fun x M2 => rPut1 K f x y M2 (nx δ)) : sFldD K a b f nx rt bk ct δ M := h
theorem x_sfldP {K : PySem.W.Frag} {f : Str} {p C : Addr} {fs : List (Str × D)} {y : D} {PM : Mem → Prop} (hm : M p = some (.ins C fs)) (c : Cls K C) (n : NoAttr K C f) (hl : fs.length < 1000) (q : PM (mset M p (.ins C (putD f y fs)))) : rPut1 K f (.ptr p) y M PM := ⟨p, C, fs, rfl, hm, c, n, hl, q⟩
theorem x_sfldQ {K : PySem.W.Frag} {f : Str} {p C : Addr} {fs : List (Str × D)} {y : D} {PM : Mem → Prop} (c : Cls K C) (n : NoAttr K C f) (hl : fs.length < 1000) (q : PM (mset M p (.ins C (putD f y fs)))) : rPut1 K f (.ptr p) y (mset M p (.ins C fs)) PM := ⟨p, C, fs, rfl, mset_same, c, n, hl, by rw [mset_set]; exact q⟩
theorem x_neg (h : a δ M fun x M1 => ∃ i, x = .int i ∧ P (.int (-i)) M1) : dNeg a δ M P := h
theorem x_join (h : a δ M fun x M1 => (∃ z, x = .str z) ∧ b δ M1 fun y M2 => rJoin1 x y M2 P) : dJoin1 a b δ M P := h
theorem x_append (h : a δ M fun x M1 => ∃ l, x = .ptr l ∧ (∃ xs, M1 l = some (.lst xs)) ∧ t δ M1 fun ys M2 => ∃ xs y, ys = [y] ∧ M2 l = some (.lst xs) ∧ xs.length < sizeLine ∧ P .non (mset M2 l (.lst (xs ++ [y])))) : dAppend a t δ M P := h
theorem x_lstRg {q : DRg} (h : q δ M fun a b M1 => RgOk a b ∧ P (.lst (rgD a b)) M1) : dLstRg q δ M P := h
theorem x_rg1 {PR : Int → Int → Mem → Prop} (h : a δ M fun x M1 => ∃ n, x = .int n ∧ PR 0 n M1) : dRg1 a δ M PR := h
theorem x_rg2 {PR : Int → Int → Mem → Prop} (h : a δ M fun x M1 => b δ M1 fun y M2 => ∃ i j, x = .int i ∧ y = .int j ∧ PR i j M2) : dRg2 a b δ M PR := h
theorem x_revL (h : a δ M fun x M1 => ∃ xs, isLs M1 x xs ∧ P (.lst xs.reverse) M1) : dRevL a δ M P := h
theorem x_joinF {ds : List DE} (h : dJs ds Str.empty δ M fun out M1 => P (.str out) M1) : dJoin ds δ M P := h
theorem x_call {sp : DC} (h : t δ M fun ds M1 => sp ds M1 P) : dCall sp t δ M P := h
theorem x_callN {n m : Nat} {sp : DC} {f : List D → List D → List D} {tk : DA} (h : t δ M fun ds M1 => tk δ M1 fun es M2 => ds.length = n ∧ es.length = m ∧ sp (f ds es) M2 P) : dCallN n m sp f t tk δ M P := h
theorem x_meth {C : Addr} {m : Str} {sp : DC} (h : a δ M fun x M1 => (∃ ns xs, isIn M1 x C ns xs ∧ m ∉ ns) ∧ t δ M1 fun ds M2 => sp (x :: ds) M2 P) : dMeth C m sp a t δ M P := h
theorem x_makeK {q : DC} {f : List D → List D} {n : Nat} (h : t δ M fun es M1 => es.length = n ∧ q (f es) M1 P) : dMakeK q f n t δ M P := h
theorem x_lc {di : DI} {vs : List Nat} (h : di δ M fun G xs M1 => G M1 ∧ xs.length ≤ 16777216 ∧ dGather G g k a vs δ P xs [] M1) : dLc di g k a vs δ M P := h
theorem x_yes (h : PB true M) : dYes δ M PB := h
theorem x_next (h : nx δ M) : sNext nx rt bk ct δ M := h
theorem x_seq (h : s (fun δ1 M1 => u nx rt bk ct δ1 M1) rt bk ct δ M) : sSeq s u nx rt bk ct δ M := h
theorem x_break (h : bk δ M) : sBreak nx rt bk ct δ M := h
theorem x_cont (h : ct δ M) : sCont nx rt bk ct δ M := h
theorem x_drop (h : a δ M fun _ M1 => nx δ M1) : sDrop a nx rt bk ct δ M := h
theorem x_ret (h : a δ M rt) : sRet a nx rt bk ct δ M := h
theorem x_retN (h : rt .non M) : sRetN nx rt bk ct δ M := h
theorem x_ifS (h : k δ M fun q M1 => if q = true then s nx rt bk ct δ M1 else u nx rt bk ct δ M1) : sIf k s u nx rt bk ct δ M := h
theorem x_asg (h : a δ M fun x M1 => g x δ M1 nx) : sAsg a g nx rt bk ct δ M := h
theorem x_gN {d : D} (h : nx (δ.set i (some d)) M) : dgN i d δ M nx := h
theorem x_par (h : t δ M fun xs M1 => ∃ x y, xs = [x, y] ∧ nx ((δ.set i (some x)).set j (some y)) M1) : sPar i j t nx rt bk ct δ M := h
theorem x_aug {d : D} (h : δ[i]? = some (some d)) (q : a δ M fun y M1 => r d y M1 fun z M2 => nx (δ.set i (some z)) M2) : sAug i a r nx rt bk ct δ M := ⟨d, h, q⟩
theorem x_for {di : DI} (h : di δ M fun G xs M1 => G M1 ∧ dLoop G g s nx rt xs δ M1) : sFor di g s nx rt bk ct δ M := h
theorem x_gT {n : Nat} {gs : DGs} {xs : List D} (h : xs.length = n) (q : gs xs δ M nx) : dgT n gs (.tup xs) δ M nx := ⟨xs, rfl, h, q⟩
theorem x_gs0 (h : nx δ M) : dgsNil [] δ M nx := ⟨rfl, h⟩
theorem x_gs1 {gs : DGs} {d : D} {ds : List D} (h : g d δ M fun δ1 M1 => gs ds δ1 M1 nx) : dgsCons g gs (d :: ds) δ M nx := ⟨d, ds, rfl, h⟩
theorem x_bl {p : Bool → Prop} {c : Bool} (h : p c) : ∃ b, D.bl c = D.bl b ∧ p b := ⟨c, rfl, h⟩
theorem x_int {p : Int → Prop} {c : Int} (h : p c) : ∃ b, D.int c = D.int b ∧ p b := ⟨c, rfl, h⟩
theorem x_int2 {p : Int → Int → Prop} {c d : Int} (h : p c d) : ∃ a b, D.int c = D.int a ∧ D.int d = D.int b ∧ p a b := ⟨c, d, rfl, rfl, h⟩
theorem x_str0 {z : Str} {p : Prop} (h : p) : (∃ y, D.str z = D.str y) ∧ p := ⟨⟨z, rfl⟩, h⟩
theorem x_two {p : D → D → Prop} {c d : D} (h : p c d) : ∃ a b, [c, d] = [a, b] ∧ p a b := ⟨c, d, rfl, h⟩
theorem x_tr {p : Prop} (h : p) : True ∧ p := ⟨trivial, h⟩
theorem x_addI {x y : Int} (h : P (.int (x + y)) M) : rAdd1 (.int x) (.int y) M P := h
theorem x_I1 {f : Int → Int → D} {x y : Int} (h : P (f x y) M) : V.rI1 f (.int x) (.int y) M P := ⟨x, y, rfl, rfl, h⟩
theorem x_ltI {x y : Int} (h : P (.bl (decide (x < y))) M) : rLt1 (.int x) (.int y) M P := h
theorem x_eqI {x y : Int} (h : P (.bl (decide (x = y))) M) : rEq1 (.int x) (.int y) M P := h
theorem x_eqS {x y : Str} (h : P (.bl (decide (x = y))) M) : rEq1 (.str x) (.str y) M P := h
theorem x_neI {x y : Int} (h : P (.bl (!decide (x = y))) M) : rNe1 (.int x) (.int y) M P := h
theorem x_neS {x y : Str} (h : P (.bl (!decide (x = y))) M) : rNe1 (.str x) (.str y) M P := h
theorem x_isN {x : D} (h : P (.bl (isNon x)) M) : rIsN1 x .non M P := ⟨rfl, h⟩
theorem x_notN {x : D} (h : P (.bl (!isNon x)) M) : rNotN1 x .non M P := ⟨rfl, h⟩
theorem x_isB {x y : Bool} (h : P (.bl (decide (x = y))) M) : rIsB1 (.bl x) (.bl y) M P := ⟨x, y, rfl, rfl, h⟩
theorem x_notB {x y : Bool} (h : P (.bl (!decide (x = y))) M) : rNotB1 (.bl x) (.bl y) M P := ⟨x, y, rfl, rfl, h⟩
theorem x_ixT {xs : List D} {n : Int} {d : D} (h : atI xs n = some d) (p : P d M) : rIx1 (.tup xs) (.int n) M P := ⟨xs, d, .inr (.inl rfl), h, p⟩
theorem x_ixL {xs : List D} {n : Int} {d : D} (h : atI xs n = some d) (p : P d M) : rIx1 (.lst xs) (.int n) M P := ⟨xs, d, .inl rfl, h, p⟩
theorem x_lenT {xs : List D} (p : P (.int xs.length) M) : rLen1 [.tup xs] M P := ⟨_, rfl, xs, .inr (.inl rfl), p⟩
theorem x_lenL {xs : List D} (p : P (.int xs.length) M) : rLen1 [.lst xs] M P := ⟨_, rfl, xs, .inl rfl, p⟩
theorem x_lenS {z : Str} (p : z.length ≤ sizeLine ∧ P (.int z.length) M) : rLen1 [.str z] M P := ⟨_, rfl, p⟩
theorem x_listL {xs : List D} (p : P (.lst xs) M) : rList1 [.lst xs] M P := ⟨_, rfl, xs, .inl rfl, p⟩
theorem x_listT {xs : List D} (p : P (.lst xs) M) : rList1 [.tup xs] M P := ⟨_, rfl, xs, .inr (.inl rfl), p⟩
theorem x_listS {z : Str} (p : z.length ≤ sizeLine ∧ P (.lst ((cd z).map sgn)) M) : rList1 [.str z] M P := ⟨_, rfl, p⟩
theorem x_tupL {xs : List D} (p : P (.tup xs) M) : kTup1 (.lst xs) M P := ⟨xs, .inl rfl, p⟩
theorem x_tupT {xs : List D} (p : P (.tup xs) M) : kTup1 (.tup xs) M P := ⟨xs, .inr (.inl rfl), p⟩
theorem x_int1 {f : Int → D} {n : Int} (p : P (f n) M) : rI11 f [.int n] M P := ⟨n, rfl, p⟩
theorem x_int21 {f : Int → Int → D} {n m : Int} (p : P (f n m) M) : rI21 f [.int n, .int m] M P := ⟨n, m, rfl, p⟩
theorem x_slT {xs : List D} {lo hi : Option Int} (p : P (.tup (cutG xs lo hi)) M) : rSl1 (.tup xs) lo hi M P := p
theorem x_slL {xs : List D} {lo hi : Option Int} (p : P (.lst (cutG xs lo hi)) M) : rSl1 (.lst xs) lo hi M P := ⟨xs, .inl rfl, p⟩
theorem x_slS {z : Str} {lo hi : Option Int} (p : z.length ≤ sizeLine ∧ P (.str (cutS z lo hi)) M) : rSl1 (.str z) lo hi M P := p
theorem x_addL {xs ys : List D} (p : xs.length + ys.length ≤ sizeLine ∧ P (.lst (xs ++ ys)) M) : rAdd1 (.lst xs) (.lst ys) M P := ⟨xs, ys, .inl rfl, .inl rfl, p.1, p.2⟩
theorem x_addS {x y : Str} (p : x.length + y.length ≤ sizeLine ∧ P (.str (x ++ y)) M) : rAdd1 (.str x) (.str y) M P := p
theorem x_all {bs : List Bool} (p : P (.bl (bs.all id)) M) : rAll1 [.lst (bs.map D.bl)] M P := ⟨_, bs, rfl, .inl rfl, p⟩
theorem x_diL {PI : (Mem → Prop) → List D → Mem → Prop} {xs : List D} (h : PI (fun _ => True) xs M) : rDiL (.lst xs) M PI := .inl ⟨xs, rfl, h⟩
theorem x_iL {PI : (Mem → Prop) → List D → Mem → Prop} (h : a δ M fun x M1 => rDiL x M1 PI) : diL a δ M PI := h
theorem x_iT {PI : (Mem → Prop) → List D → Mem → Prop} (h : a δ M fun x M1 => ∃ xs, isTF x xs ∧ PI (fun _ => True) xs M1) : diT a δ M PI := h
theorem x_iS {PI : (Mem → Prop) → List D → Mem → Prop} (h : a δ M fun x M1 => ∃ z, x = .str z ∧ PI (fun _ => True) ((cd z).map sgn) M1) : diS a δ M PI := h
theorem x_iR1 {PI : (Mem → Prop) → List D → Mem → Prop} (h : t δ M fun xs M1 => ∃ j : Int, xs = [.int j] ∧ -(2 ^ 62) ≤ j ∧ j < 2 ^ 62 ∧ PI (fun _ => True) (rgD 0 j) M1) : diR1 t δ M PI := h
theorem x_iR2 {PI : (Mem → Prop) → List D → Mem → Prop} (h : t δ M fun xs M1 => ∃ i j : Int, xs = [.int i, .int j] ∧ (-(2 ^ 62) ≤ i ∧ i < 2 ^ 62 ∧ -(2 ^ 62) ≤ j ∧ j < 2 ^ 62) ∧ PI (fun _ => True) (rgD i j) M1) : diR2 t δ M PI := h
theorem x_tfE {p : List D → Prop} {xs : List D} (h : p xs) : ∃ ys, isTF (D.tup xs) ys ∧ p ys := ⟨xs, rfl, h⟩
theorem x_tfF {p : List D → Prop} {xs : List D} (h : p xs) : ∃ ys, isTF (D.ftp xs) ys ∧ p ys := ⟨xs, rfl, h⟩
theorem x_tupE {p : List D → Prop} {xs : List D} (h : p xs) : ∃ ys, D.tup xs = .tup ys ∧ p ys := ⟨xs, rfl, h⟩
theorem x_strE {p : Str → Prop} {xs : Str} (h : p xs) : ∃ ys, D.str xs = .str ys ∧ p ys := ⟨xs, rfl, h⟩
theorem x_r1 {p : Int → Prop} {n : Int} (h : p n) : ∃ j : Int, [D.int n] = [.int j] ∧ p j := ⟨n, rfl, h⟩
theorem x_r2 {p : Int → Int → Prop} {n m : Int} (h : p n m) : ∃ i j : Int, [D.int n, D.int m] = [.int i, .int j] ∧ p i j := ⟨n, m, rfl, h⟩
theorem x_ite (c : Prop) [Decidable c] {A B : Prop} (h1 : c → A) (h2 : ¬ c → B) : if decide c = true then A else B := by
  by_cases z : c
  · rw [decide_eq_true z, if_pos rfl]; exact h1 z
  · rw [decide_eq_false z, if_neg Bool.false_ne_true]; exact h2 z
theorem x_iten {c : Prop} [Decidable c] {A B : Prop} (h1 : ¬ c → A) (h2 : c → B) : if (!decide c) = true then A else B := by
  by_cases z : c
  · rw [decide_eq_true z]; exact h2 z
  · rw [decide_eq_false z]; exact h1 z
theorem x_iteT {c : Prop} [Decidable c] {A B : Prop} (z : c) (h : A) : if decide c = true then A else B := by rw [decide_eq_true z, if_pos rfl]; exact h
theorem x_iteF {c : Prop} [Decidable c] {A B : Prop} (z : ¬ c) (h : B) : if decide c = true then A else B := by rw [decide_eq_false z, if_neg Bool.false_ne_true]; exact h
theorem x_itenT {c : Prop} [Decidable c] {A B : Prop} (z : ¬ c) (h : A) : if (!decide c) = true then A else B := by rw [decide_eq_false z]; exact h
theorem x_itenF {c : Prop} [Decidable c] {A B : Prop} (z : c) (h : B) : if (!decide c) = true then A else B := by rw [decide_eq_true z]; exact h
theorem x_true {A B : Prop} (h : A) : if true = true then A else B := by rw [if_pos rfl]; exact h
theorem x_false {A B : Prop} (h : B) : if false = true then A else B := by rw [if_neg Bool.false_ne_true]; exact h
theorem x_nfalse {A B : Prop} (h : A) : if (!false) = true then A else B := by simpa using h
theorem x_ntrue {A B : Prop} (h : B) : if (!true) = true then A else B := by simpa using h
end
end V
namespace V
open PySem PySem.Spec PyProof.Rows L2 U StX
def enumD (xs : List D) : List D := xs.mapIdx fun i d => .tup [.int (i : Nat), d]
def zipD (xs ys : List D) : List D := (xs.zip ys).map fun p => .tup [p.1, p.2]
def diET (a : DA) : DI := fun δ M P => a δ M fun vs M1 => ∃ x xs, vs = [x] ∧ isTF x xs ∧ P (fun _ => True) (enumD xs) M1
def diE (a : DA) : DI := fun δ M P => a δ M fun vs M1 => ∃ xs, vs = [.lst xs] ∧ P (fun _ => True) (enumD xs) M1
def diZ (a : DA) : DI := fun δ M P => a δ M fun vs M1 => ∃ xs ys, vs = [.lst xs, .lst ys] ∧ P (fun _ => True) (zipD xs ys) M1
theorem enumD_len (xs : List D) : (enumD xs).length = xs.length := by simp [enumD]
theorem enumD_get {xs : List D} {i : Nat} {d : D} (h : xs[i]? = some d) : (enumD xs)[i]? = some (.tup [.int (i : Nat), d]) := by simp [enumD, h]
theorem zipD_len (xs ys : List D) : (zipD xs ys).length = min xs.length ys.length := by simp [zipD]
theorem zipD_get {xs ys : List D} {i : Nat} {d e : D} (h : xs[i]? = some d) (k : ys[i]? = some e) : (zipD xs ys)[i]? = some (.tup [d, e]) := by
  unfold zipD
  have e1 : (xs.zip ys)[i]? = some (d, e) := List.getElem?_zip_eq_some.mpr ⟨h, k⟩
  rw [List.getElem?_map, e1]
  rfl
section
variable {K : PySem.W.Frag} {tt : TA} {dd : DA}
instance pu_iET [A : PuA tt dd] : PuI (iEnumT K tt) (diET dd) := ⟨fun S M σ δ H P R w e h k =>
  A.run S M σ δ H _ _ w e h fun d S1 M1 v H1 p1 t1 w1 h1 => by
    obtain ⟨x, xs, rfl, hx, p1⟩ := p1
    match v, h1 with
    | [u], .cons h2 .nil =>
      obtain ⟨a, vs0, rfl, n0, ha0, hs0⟩ := tf_get h2 hx
      have st := stay_tf w1 h2 hx
      obtain ⟨vs, ha, hs⟩ := st _ _ _ .refl w1 trivial
      refine ⟨a, vs, rfl, Or.inl ha, k _ _ S1 M1 H1 _ p1 t1 w1 ⟨fun S' M' H' t w' _ => ?_, fun i S' M' H' hi t w' _ => ?_, fun i S' M' H' x H2 hi t w' _ y => ?_⟩⟩
      · obtain ⟨us, h3, h4⟩ := st _ _ _ t w' trivial
        exact ⟨us, Or.inl h3, by rw [enumD_len, h4.length]⟩
      · obtain ⟨us, h3, h4⟩ := st _ _ _ t w' trivial
        rw [enumD_len] at hi
        have hl := h4.length
        exact ⟨us, us[i], Or.inl h3, at_some (by omega)⟩
      · obtain ⟨us, h3, h4⟩ := st _ _ _ t w' trivial
        obtain ⟨T, x0, rfl, nT, rfl, q⟩ := y
        obtain ⟨d, e1, e2⟩ := h4.getV (q us (Or.inl h3))
        exact ⟨Same.new nT, _, enumD_get e1, .tup (w'.ns nT) upd_same (.cons (.int _) (.cons (e2.sm (Same.new nT)) .nil))⟩⟩
instance pu_iE [A : PuA tt dd] : PuI (iEnum K tt) (diE dd) := ⟨fun S M σ δ H P R w e h k =>
  A.run S M σ δ H _ _ w e h fun d S1 M1 v H1 p1 t1 w1 h1 => by
    obtain ⟨xs, rfl, p1⟩ := p1
    match v, h1 with
    | [.ref a], .cons h2 .nil =>
      have st := stay_lst w1 h2
      obtain ⟨vs, ha, hs⟩ := st _ _ _ .refl w1 trivial
      refine ⟨a, vs, rfl, SqL.of ha, k _ _ S1 M1 H1 _ p1 t1 w1 ⟨fun S' M' H' t w' _ => ?_, fun i S' M' H' hi t w' _ => ?_, fun i S' M' H' x H2 hi t w' _ y => ?_⟩⟩
      · obtain ⟨us, h3, h4⟩ := st _ _ _ t w' trivial
        exact ⟨us, SqL.of h3, by rw [enumD_len, h4.length]; exact Nat.le_refl _⟩
      · obtain ⟨us, h3, h4⟩ := st _ _ _ t w' trivial
        rw [enumD_len] at hi
        have hl := h4.length
        exact ⟨us, us[i], SqL.of h3, at_some (by omega)⟩
      · obtain ⟨us, h3, h4⟩ := st _ _ _ t w' trivial
        obtain ⟨T, x0, rfl, nT, rfl, q⟩ := y
        obtain ⟨d, e1, e2⟩ := h4.getV (q us (SqL.of h3))
        exact ⟨Same.new nT, _, enumD_get e1, .tup (w'.ns nT) upd_same (.cons (.int _) (.cons (e2.sm (Same.new nT)) .nil))⟩⟩
instance pu_iZ [A : PuA tt dd] : PuI (iZip K tt) (diZ dd) := ⟨fun S M σ δ H P R w e h k =>
  A.run S M σ δ H _ _ w e h fun d S1 M1 v H1 p1 t1 w1 h1 => by
    obtain ⟨xs, ys, rfl, p1⟩ := p1
    match v, h1 with
    | [.ref a, .ref b], .cons h2 (.cons h3 .nil) =>
      have sa := stay_lst w1 h2
      have sb := stay_lst w1 h3
      obtain ⟨vs, ha, hs⟩ := sa _ _ _ .refl w1 trivial
      obtain ⟨us, hb, ht⟩ := sb _ _ _ .refl w1 trivial
      refine ⟨a, b, vs, us, rfl, SqL.of ha, SqL.of hb, k _ _ S1 M1 H1 _ p1 t1 w1 ⟨fun S' M' H' t w' _ => ?_, fun i S' M' H' hi t w' _ => ?_, fun i S' M' H' x H2 hi t w' _ y => ?_⟩⟩
      · obtain ⟨vs, h4, h5⟩ := sa _ _ _ t w' trivial
        obtain ⟨us, h6, h7⟩ := sb _ _ _ t w' trivial
        refine ⟨vs, us, SqL.of h4, SqL.of h6, ?_⟩
        rw [zipD_len, h5.length, h7.length]
        omega
      · obtain ⟨vs, h4, h5⟩ := sa _ _ _ t w' trivial
        obtain ⟨us, h6, h7⟩ := sb _ _ _ t w' trivial
        rw [zipD_len] at hi
        have l1 := h5.length
        have l2 := h7.length
        exact ⟨vs, us, vs[i], us[i], SqL.of h4, SqL.of h6, at_some (by omega), at_some (by omega)⟩
      · obtain ⟨vs, h4, h5⟩ := sa _ _ _ t w' trivial
        obtain ⟨us, h6, h7⟩ := sb _ _ _ t w' trivial
        obtain ⟨T, x0, y0, rfl, nT, rfl, q1, q2⟩ := y
        obtain ⟨d, e1, e2⟩ := h5.getV (q1 vs (SqL.of h4))
        obtain ⟨d', e3, e4⟩ := h7.getV (q2 us (SqL.of h6))
        exact ⟨Same.new nT, _, zipD_get e1 e3, .tup (w'.ns nT) upd_same (.cons (e2.sm (Same.new nT)) (.cons (e4.sm (Same.new nT)) .nil))⟩⟩
end
section
variable {δ : Dl} {M : Mem} {t : DA} {PI : (Mem → Prop) → List D → Mem → Prop}
theorem x_tf1 {p : List D → Prop} {ys : List D} (h : p ys) : ∃ x xs, [D.tup ys] = [x] ∧ isTF x xs ∧ p xs := ⟨_, ys, rfl, rfl, h⟩
theorem x_tf1F {p : List D → Prop} {ys : List D} (h : p ys) : ∃ x xs, [D.ftp ys] = [x] ∧ isTF x xs ∧ p xs := ⟨_, ys, rfl, rfl, h⟩
theorem x_iET (h : t δ M fun vs M1 => ∃ x xs, vs = [x] ∧ isTF x xs ∧ PI (fun _ => True) (enumD xs) M1) : diET t δ M PI := h
theorem x_iE (h : t δ M fun vs M1 => ∃ xs, vs = [.lst xs] ∧ PI (fun _ => True) (enumD xs) M1) : diE t δ M PI := h
theorem x_iZ (h : t δ M fun vs M1 => ∃ xs ys, vs = [.lst xs, .lst ys] ∧ PI (fun _ => True) (zipD xs ys) M1) : diZ t δ M PI := h
theorem x_tup1 {p : List D → Prop} {xs : List D} (h : p xs) : ∃ ys, [D.tup xs] = [.tup ys] ∧ p ys := ⟨xs, rfl, h⟩
theorem x_lst1 {p : List D → Prop} {xs : List D} (h : p xs) : ∃ ys, [D.lst xs] = [.lst ys] ∧ p ys := ⟨xs, rfl, h⟩
theorem x_lst2 {p : List D → List D → Prop} {xs ys : List D} (h : p xs ys) : ∃ us vs, [D.lst xs, D.lst ys] = [.lst us, .lst vs] ∧ p us vs := ⟨xs, ys, rfl, h⟩
theorem x_starT {p : List D → Prop} {xs : List D} (h : p xs) : ∃ us, (isTF (D.tup xs) us ∨ D.tup xs = .lst us ∨ ∃ p, D.tup xs = .ptr p ∧ M p = some (.lst us)) ∧ p us := ⟨xs, .inl rfl, h⟩
theorem x_starF {p : List D → Prop} {xs : List D} (h : p xs) : ∃ us, (isTF (D.ftp xs) us ∨ D.ftp xs = .lst us ∨ ∃ p, D.ftp xs = .ptr p ∧ M p = some (.lst us)) ∧ p us := ⟨xs, .inl rfl, h⟩
theorem x_starL {p : List D → Prop} {xs : List D} (h : p xs) : ∃ us, (isTF (D.lst xs) us ∨ D.lst xs = .lst us ∨ ∃ p, D.lst xs = .ptr p ∧ M p = some (.lst us)) ∧ p us := ⟨xs, .inr (.inl rfl), h⟩
variable {P : QD}
theorem x_eqIN {x : Int} (h : P (.bl false) M) : rEq1 (.int x) .non M P := h
theorem x_eqNI {x : Int} (h : P (.bl false) M) : rEq1 .non (.int x) M P := h
theorem x_eqSN {x : Str} (h : P (.bl false) M) : rEq1 (.str x) .non M P := h
theorem x_eqNS {x : Str} (h : P (.bl false) M) : rEq1 .non (.str x) M P := h
theorem x_eqNN (h : P (.bl true) M) : rEq1 .non .non M P := h
theorem x_eqBB {x y : Bool} (h : P (.bl (decide (x = y))) M) : rEq1 (.bl x) (.bl y) M P := h
theorem x_neIN {x : Int} (h : P (.bl true) M) : rNe1 (.int x) .non M P := h
theorem x_neNI {x : Int} (h : P (.bl true) M) : rNe1 .non (.int x) M P := h
theorem x_neSN {x : Str} (h : P (.bl true) M) : rNe1 (.str x) .non M P := h
theorem x_neNS {x : Str} (h : P (.bl true) M) : rNe1 .non (.str x) M P := h
theorem x_neNN (h : P (.bl false) M) : rNe1 .non .non M P := h
theorem x_neBB {x y : Bool} (h : P (.bl (!decide (x = y))) M) : rNe1 (.bl x) (.bl y) M P := h
end
end V
namespace V
open PySem PySem.Spec PyProof.Rows L2 U StX
end V
namespace V
open PySem PySem.Spec PyProof.Rows L2 U StX RZ
section
variable {K : PySem.W.Frag} {tt : TA} {dd : DA}
def diZT (a : DA) : DI := fun δ M P => a δ M fun vs M1 => ∃ xs ys, vs = [.tup xs, .tup ys] ∧ P (fun _ => True) (zipD xs ys) M1
instance pu_iZT [A : PuA tt dd] : PuI (iZipA K tt) (diZT dd) := ⟨fun S M σ δ H P R w e h k =>
  A.run S M σ δ H _ _ w e h fun d S1 M1 v H1 p1 t1 w1 h1 => by
    obtain ⟨xs, ys, rfl, p1⟩ := p1
    match v, h1 with
    | [.ref a, .ref b], .cons h2 (.cons h3 .nil) =>
      have sa := stay_tup w1 h2
      have sb := stay_tup w1 h3
      obtain ⟨vs, ha, hs⟩ := sa _ _ _ .refl w1 trivial
      obtain ⟨us, hb, ht⟩ := sb _ _ _ .refl w1 trivial
      refine ⟨a, b, vs, us, rfl, .inr ⟨SqT.of ha, SqT.of hb, k _ _ S1 M1 H1 _ p1 t1 w1 ⟨fun S' M' H' t w' _ => ?_, fun i S' M' H' hi t w' _ => ?_, fun i S' M' H' x H2 hi t w' _ y => ?_⟩⟩⟩
      · obtain ⟨vs, h4, h5⟩ := sa _ _ _ t w' trivial
        obtain ⟨us, h6, h7⟩ := sb _ _ _ t w' trivial
        refine ⟨vs, us, SqT.of h4, SqT.of h6, ?_⟩
        rw [zipD_len, h5.length, h7.length]
        omega
      · obtain ⟨vs, h4, h5⟩ := sa _ _ _ t w' trivial
        obtain ⟨us, h6, h7⟩ := sb _ _ _ t w' trivial
        rw [zipD_len] at hi
        have l1 := h5.length
        have l2 := h7.length
        exact ⟨vs, us, vs[i], us[i], SqT.of h4, SqT.of h6, at_some (by omega), at_some (by omega)⟩
      · obtain ⟨vs, h4, h5⟩ := sa _ _ _ t w' trivial
        obtain ⟨us, h6, h7⟩ := sb _ _ _ t w' trivial
        obtain ⟨T, x0, y0, rfl, nT, rfl, q1, q2⟩ := y
        obtain ⟨d, e1, e2⟩ := h5.getV (q1 vs (SqT.of h4))
        obtain ⟨d', e3, e4⟩ := h7.getV (q2 us (SqT.of h6))
        exact ⟨Same.new nT, _, zipD_get e1 e3, .tup (w'.ns nT) upd_same (.cons (e2.sm (Same.new nT)) (.cons (e4.sm (Same.new nT)) .nil))⟩⟩
end
def sPar3 (i j l : Nat) (t : DA) : DS := fun nx _ _ _ δ M => t δ M fun xs M1 => ∃ x y z, xs = [x, y, z] ∧ nx (((δ.set i (some x)).set j (some y)).set l (some z)) M1
instance pu_par3 {i j l : Nat} {tt : TA} {dd : DA} [A : PuA tt dd] : PuS (tPar3 i j l tt) (sPar3 i j l dd) := ⟨fun S M σ δ H nx rt bk ct E w e h lk =>
  A.run S M σ δ H _ _ w e h fun d S1 M1 v H1 p1 t1 w1 h1 => by
    obtain ⟨x, y, z, rfl, p1⟩ := p1
    match v, h1 with
    | [u, v, q], .cons h2 (.cons h3 (.cons h4 .nil)) => exact ⟨u, v, q, rfl, lk.nx _ S1 M1 _ H1 p1 t1 w1 ((((e.step w t1).set h2).set h3).set h4)⟩⟩
theorem x_par3 {i j l : Nat} {t : DA} {nx bk ct : QS} {rt : QD} {δ : Dl} {M : Mem} (h : t δ M fun xs M1 => ∃ x y z, xs = [x, y, z] ∧ nx (((δ.set i (some x)).set j (some y)).set l (some z)) M1) : sPar3 i j l t nx rt bk ct δ M := h
theorem x_three {p : D → D → D → Prop} {c d e : D} (h : p c d e) : ∃ x y z, [c, d, e] = [x, y, z] ∧ p x y z := ⟨c, d, e, rfl, h⟩
theorem x_repL {M : Mem} {P : QD} {xs : List D} {k : Int} (h1 : -(2 ^ 63) ≤ k) (h2 : k < 2 ^ 63) (h3 : xs.length * k.toNat ≤ sizeLine) (p : P (.lst (List.replicate k.toNat xs).flatten) M) : rRep1 (.lst xs) (.int k) M P := ⟨xs, k, .inl rfl, rfl, h1, h2, h3, p⟩
def rMulS1 : DR := fun x y M P => ∃ z n, x = .str z ∧ y = .int n ∧ z.length ≤ 2000 ∧ 0 ≤ n ∧ n ≤ 8000 ∧ P (.str (Txt.mul z n)) M
instance op_mulS1 : OpD rMulS rMulS1 := ⟨fun S M H x y dx dy P Q w hx hy h k => by
  obtain ⟨z, n, rfl, rfl, h1, h2, h3, p⟩ := h
  cases hx; cases hy
  exact ⟨z, n, rfl, rfl, h1, h2, h3, k _ S M _ H p .refl w (.str _)⟩⟩
theorem x_iZT {δ : Dl} {M : Mem} {t : DA} {PI : (Mem → Prop) → List D → Mem → Prop} (h : t δ M fun vs M1 => ∃ xs ys, vs = [.tup xs, .tup ys] ∧ PI (fun _ => True) (zipD xs ys) M1) : diZT t δ M PI := h
theorem x_tup2 {p : List D → List D → Prop} {xs ys : List D} (h : p xs ys) : ∃ us vs, [D.tup xs, D.tup ys] = [.tup us, .tup vs] ∧ p us vs := ⟨xs, ys, rfl, h⟩
end V
namespace V
open PySem PySem.Spec PyProof.Rows L2 U StX
/-- t + u -/
def rCat1 : DR := fun x y M P => ∃ xs ys, x = .tup xs ∧ y = .tup ys ∧ xs.length + ys.length ≤ sizeLine ∧ P (.tup (xs ++ ys)) M
instance op_cat1 {K : PySem.W.Frag} : OpD (rCatA K) rCat1 := ⟨fun S M H x y dx dy P Q w hx hy h k => by
  obtain ⟨xs, ys, rfl, rfl, hl, p⟩ := h
  cases hx with
  | @tup a vs _ n ha hs =>
    cases hy with
    | @tup b us _ m hb ht =>
      refine ⟨a, b, vs, us, rfl, rfl, SqT.of ha, SqT.of hb, by rw [hs.length, ht.length]; exact hl, fun e => ?_, fun e1 e2 => ?_, fun e1 e2 q nq => ?_⟩
      · subst e
        cases hs
        exact k _ S M _ H p .refl w (.tup m hb ht)
      · subst e2
        cases ht
        rw [List.append_nil] at p
        exact k _ S M _ H p .refl w (.tup n ha hs)
      · exact k _ S M _ _ p (.new nq) (w.new nq) (.tup (w.ns nq) upd_same ((hs.append ht).sm (Same.new nq)))⟩
end V
namespace V
open PySem PySem.Spec PyProof.Rows L2 U StX
def rLtD (K : PySem.W.Frag) : R2 := fun x y H Q => ∃ d e, Dp K H x d ∧ Dp K H y e ∧ PySem.W.alike d e = true ∧ d ≠ .none ∧ min d.depth e.depth < 64 ∧ Q (.bl (PySem.W.dataLt d e)) H
def rLtP1 : DR := fun x y M P => ∃ (n m : Int) (z u : Str), x = .tup [.int n, .str z] ∧ y = .tup [.int m, .str u] ∧ P (.bl (if n = m then decide (cd z < cd u) else decide (n < m))) M
theorem eqv_str (z u : Str) : PyData.eqv (.str z) (.str u) = decide (z = u) := by
  simp only [PyData.eqv]
  by_cases h : z = u
  · simp [h]
  · simp [h]
theorem lt_np {n m : Int} {z u : Str} : PySem.W.dataLt (.tuple [.int n, .str z]) (.tuple [.int m, .str u]) = if n = m then decide (cd z < cd u) else decide (n < m) := by
  rw [PySem.W.dataLt_pair (by simp [PySem.W.alike]) (by simp [PySem.W.alike]), PySem.W.dataLt_int, PySem.W.dataLt_str, eqv_str]
  simp only [PyData.eqv, beq_iff_eq]
  by_cases h : n = m
  · simp only [h, if_true]
    by_cases k : z = u
    · subst k
      rw [decide_eq_true rfl, if_pos rfl]
      exact (decide_eq_false (List.lt_irrefl _)).symm
    · rw [decide_eq_false k, if_neg Bool.false_ne_true]
      rfl
  · simp only [h, if_false]
instance op_ltP1 {K : PySem.W.Frag} : OpD (rLtD K) rLtP1 := ⟨fun S M H x y dx dy P Q w hx hy h k => by
  obtain ⟨n, m, z, u, rfl, rfl, p⟩ := h
  have e1 : D.py (.tup [.int n, .str z]) = some (.tuple [.int n, .str z]) := by simp [D.py, D.pys]
  have e2 : D.py (.tup [.int m, .str u]) = some (.tuple [.int m, .str u]) := by simp [D.py, D.pys]
  refine ⟨_, _, Dt.dp _ hx e1, Dt.dp _ hy e2, by simp [PySem.W.alike, PySem.W.alikeAll], by simp, by simp [PyData.depth, PyData.depthAll], ?_⟩
  rw [lt_np]
  exact k _ S M _ H p .refl w (.bl _)⟩
end V
namespace V
open PySem PySem.Spec PyProof.Rows L2 U StX
theorem lt_hu {a b : Nat} (h : a + 64 < b) : a + 1 < b := by omega
def kD : Key → D
  | .inl i => .int i
  | .inr x => .str x
def valD (kvs : List (Key × D)) (k : Key) : Option D := (kvs.find? fun kv => decide (kv.1 = k)).map (·.2)
def putDk (kvs : List (Key × D)) (k : Key) (d : D) : List (Key × D) :=
  if (kvs.any fun kv => decide (kv.1 = k)) = true then kvs.map (fun kv => if kv.1 = k then (kv.1, d) else kv) else kvs ++ [(k, d)]
theorem valD_pos {p : Key × D} {r : List (Key × D)} {k : Key} (e : p.1 = k) : valD (p :: r) k = some p.2 := by simp [valD, List.find?_cons, e]
theorem valD_neg {p : Key × D} {r : List (Key × D)} {k : Key} (e : ¬ p.1 = k) : valD (p :: r) k = valD r k := by simp [valD, List.find?_cons, e]
section
variable {S S' : Addr → Prop} {M M' : Mem} {H H' : Hp}
theorem dt_kD {v : V} {k : Key} (h : Dt S H v (kD k)) : v = kV k := by
  cases k with
  | inl i => cases h; rfl
  | inr x => cases h; rfl
theorem val_held : ∀ {ws : List (Key × V)} {kvs : List (Key × D)}, ws.map (·.1) = kvs.map (·.1) → DtA S H (ws.map (·.2)) (kvs.map (·.2)) → ∀ k, (valD kvs k = none ∧ valV ws k = none) ∨ ∃ d v, valD kvs k = some d ∧ valV ws k = some v ∧ Dt S H v d
  | [], [], _, _, k => .inl ⟨rfl, rfl⟩
  | [], _ :: _, h, _, _ => by simp at h
  | _ :: _, [], h, _, _ => by simp at h
  | (a, v) :: ws, (b, d) :: kvs, hk, hs, k => by
    simp only [List.map_cons, List.cons.injEq] at hk
    obtain ⟨rfl, hk⟩ := hk
    cases hs with
    | cons h1 h2 =>
      by_cases c : a = k
      · exact .inr ⟨d, v, valD_pos c, valV_pos c, h1⟩
      · rw [valD_neg (p := (a, d)) c, valV_neg (p := (a, v)) c]
        exact val_held hk h2 k
theorem map_held {v : V} {d : D} (hv : Dt S H v d) (k : Key) : ∀ {ws : List (Key × V)} {kvs : List (Key × D)}, ws.map (·.1) = kvs.map (·.1) → DtA S H (ws.map (·.2)) (kvs.map (·.2)) →
    (ws.map (fun kv => if kv.1 = k then (kv.1, v) else kv)).map (·.1) = (kvs.map (fun kv => if kv.1 = k then (kv.1, d) else kv)).map (·.1) ∧
    DtA S H ((ws.map (fun kv => if kv.1 = k then (kv.1, v) else kv)).map (·.2)) ((kvs.map (fun kv => if kv.1 = k then (kv.1, d) else kv)).map (·.2))
  | [], [], _, _ => ⟨rfl, .nil⟩
  | [], _ :: _, h, _ => by simp at h
  | _ :: _, [], h, _ => by simp at h
  | (a, x) :: ws, (b, y) :: kvs, hk, hs => by
    simp only [List.map_cons, List.cons.injEq] at hk
    obtain ⟨rfl, hk⟩ := hk
    cases hs with
    | cons h1 h2 =>
      obtain ⟨e1, e2⟩ := map_held hv k hk h2
      simp only [List.map_cons]
      by_cases c : a = k
      · rw [if_pos c, if_pos c]
        exact ⟨by rw [e1], .cons hv e2⟩
      · rw [if_neg c, if_neg c]
        exact ⟨by rw [e1], .cons h1 e2⟩
theorem any_held (k : Key) : ∀ {ws : List (Key × V)} {kvs : List (Key × D)}, ws.map (·.1) = kvs.map (·.1) → (ws.any fun kv => decide (kv.1 = k)) = (kvs.any fun kv => decide (kv.1 = k))
  | [], [], _ => rfl
  | [], _ :: _, h => by simp at h
  | _ :: _, [], h => by simp at h
  | (a, x) :: ws, (b, y) :: kvs, hk => by
    simp only [List.map_cons, List.cons.injEq] at hk
    obtain ⟨rfl, hk⟩ := hk
    rw [List.any_cons, List.any_cons, any_held k hk]
theorem put_heldK {v : V} {d : D} (hv : Dt S H v d) (k : Key) {ws : List (Key × V)} {kvs : List (Key × D)} (hk : ws.map (·.1) = kvs.map (·.1)) (hs : DtA S H (ws.map (·.2)) (kvs.map (·.2))) :
    (putK ws k v).map (·.1) = (putDk kvs k d).map (·.1) ∧ DtA S H ((putK ws k v).map (·.2)) ((putDk kvs k d).map (·.2)) := by
  unfold putK putDk
  rw [any_held k hk]
  by_cases c : (kvs.any fun kv => decide (kv.1 = k)) = true
  · rw [if_pos c, if_pos c]
    exact map_held hv k hk hs
  · rw [if_neg c, if_neg c, List.map_append, List.map_append, List.map_append, List.map_append, hk]
    exact ⟨rfl, hs.snoc hv⟩
theorem len_held {ws : List (Key × V)} {kvs : List (Key × D)} (hk : ws.map (·.1) = kvs.map (·.1)) : ws.length = kvs.length := by
  have := congrArg List.length hk
  rwa [List.length_map, List.length_map] at this
end
def dDNew : DE := fun δ M P => ∀ a, M a = none → P (.ptr a) (mset M a (.dic []))
instance pu_dnew : PuE tDNewK dDNew := ⟨fun S M σ δ H P Q w e h k p hp =>
  k (.ptr p) _ _ (.ref p) _ (h p (w.fresh hp)) (.mutable w hp) (w.mutable hp ⟨[], upd_same, rfl, .nil⟩) (.ptr p)⟩
def dDGet2 (a b c : DE) : DE := fun δ M P => a δ M fun x M1 => ∃ p, x = .ptr p ∧ (∃ kvs, M1 p = some (.dic kvs)) ∧ b δ M1 fun y M2 => c δ M2 fun z M3 => ∃ kvs k, M3 p = some (.dic kvs) ∧ y = kD k ∧ P ((valD kvs k).getD z) M3
instance pu_dget2 {ta tb tc : TE} {da db dc : DE} [A : PuE ta da] [B : PuE tb db] [C : PuE tc dc] : PuE (tDGet2 ta tb tc) (dDGet2 da db dc) := ⟨fun S M σ δ H P Q w e h k =>
  A.run S M σ δ H _ _ w e h fun x S1 M1 v1 H1 p1 t1 w1 h1 => by
    obtain ⟨p, rfl, ⟨kvs, hm⟩, p1⟩ := p1
    cases h1
    obtain ⟨_, ws, ha, _, _⟩ := w1.mem p _ hm
    refine ⟨p, rfl, .inl ⟨ws, .inl ha⟩, B.run S1 M1 σ δ H1 _ _ w1 (e.step w t1) p1 fun y S2 M2 v2 H2 p2 t2 w2 h2 => C.run S2 M2 σ δ H2 _ _ w2 (e.step w (t1.trans t2)) p2 fun z S3 M3 v3 H3 p3 t3 w3 h3 => ?_⟩
    obtain ⟨kvs, k', hm, rfl, p3⟩ := p3
    have ev := dt_kD h2
    subst ev
    obtain ⟨_, ws, ha, hk, hs⟩ := w3.mem p _ hm
    refine ⟨valV ws k', DGet.k ha, ?_⟩
    rcases val_held hk hs k' with ⟨e1, e2⟩ | ⟨d, v, e1, e2, e3⟩
    · rw [e2]
      rw [e1] at p3
      exact k _ _ _ _ _ p3 ((t1.trans t2).trans t3) w3 h3
    · rw [e2]
      rw [e1] at p3
      exact k _ _ _ _ _ p3 ((t1.trans t2).trans t3) w3 e3⟩
def dDSetd (a b c : DE) : DE := fun δ M P => a δ M fun x M1 => ∃ p, x = .ptr p ∧ (∃ kvs, M1 p = some (.dic kvs)) ∧ b δ M1 fun y M2 => c δ M2 fun z M3 => ∃ kvs k, M3 p = some (.dic kvs) ∧ y = kD k ∧ kvs.length < sizeLine ∧
  (∀ d, valD kvs k = some d → P d M3) ∧ (valD kvs k = none → P z (mset M3 p (.dic (putDk kvs k z))))
instance pu_dsetd {ta tb tc : TE} {da db dc : DE} [A : PuE ta da] [B : PuE tb db] [C : PuE tc dc] : PuE (tDSetd ta tb tc) (dDSetd da db dc) := ⟨fun S M σ δ H P Q w e h k =>
  A.run S M σ δ H _ _ w e h fun x S1 M1 v1 H1 p1 t1 w1 h1 => by
    obtain ⟨p, rfl, ⟨kvs, hm⟩, p1⟩ := p1
    cases h1
    obtain ⟨_, ws, ha, _, _⟩ := w1.mem p _ hm
    refine ⟨p, rfl, .inl ⟨ws, .inl ha⟩, B.run S1 M1 σ δ H1 _ _ w1 (e.step w t1) p1 fun y S2 M2 v2 H2 p2 t2 w2 h2 => C.run S2 M2 σ δ H2 _ _ w2 (e.step w (t1.trans t2)) p2 fun z S3 M3 v3 H3 p3 t3 w3 h3 => ?_⟩
    obtain ⟨kvs, k', hm, rfl, hl, q1, q2⟩ := p3
    have ev := dt_kD h2
    subst ev
    obtain ⟨sp, ws, ha, hk, hs⟩ := w3.mem p _ hm
    have t123 := (t1.trans t2).trans t3
    refine ⟨ws, k', ha, rfl, by rw [len_held hk]; exact hl, fun v hv => ?_, fun hv => ?_⟩
    · rcases val_held hk hs k' with ⟨e1, e2⟩ | ⟨d, v', e1, e2, e3⟩
      · rw [e2] at hv; cases hv
      · rw [e2] at hv; cases hv
        exact k _ _ _ _ _ (q1 d e1) t123 w3 e3
    · rcases val_held hk hs k' with ⟨e1, e2⟩ | ⟨d, v', e1, e2, e3⟩
      · obtain ⟨e4, e5⟩ := put_heldK h3 k' hk hs
        have ex : Ext S3 H3 (upd H3 p (.dK (putK ws k' v3))) := Ext.mut (Ext.refl _) sp
        exact k _ _ _ _ _ (q2 e1) (t123.trans (.change hm)) (w3.change hm ⟨_, upd_same, e4, e5.go ex⟩) (h3.go ex)
      · rw [e2] at hv; cases hv⟩
def sDPutD (a b c : DE) : DS := fun nx rt bk ct δ M => c δ M fun z M1 => a δ M1 fun x M2 => b δ M2 fun y M3 => ∃ p kvs k, x = .ptr p ∧ M3 p = some (.dic kvs) ∧ y = kD k ∧ kvs.length < sizeLine ∧ nx δ (mset M3 p (.dic (putDk kvs k z)))
instance pu_dput {ta tb tc : TE} {da db dc : DE} [A : PuE ta da] [B : PuE tb db] [C : PuE tc dc] : PuS (sDPut ta tb tc) (sDPutD da db dc) := ⟨fun S M σ δ H nx rt bk ct E w e h l =>
  C.run S M σ δ H _ _ w e h fun z S1 M1 v1 H1 p1 t1 w1 h1 => A.run S1 M1 σ δ H1 _ _ w1 (e.step w t1) p1 fun x S2 M2 v2 H2 p2 t2 w2 h2 =>
    B.run S2 M2 σ δ H2 _ _ w2 (e.step w (t1.trans t2)) p2 fun y S3 M3 v3 H3 p3 t3 w3 h3 => by
      obtain ⟨p, kvs, k', rfl, hm, rfl, hl, q⟩ := p3
      have ev := dt_kD h3
      subst ev
      cases h2
      obtain ⟨sp, ws, ha, hk, hs⟩ := w3.mem p _ hm
      have hv := dt_step w1 (t2.trans t3) _ h1
      obtain ⟨e4, e5⟩ := put_heldK hv k' hk hs
      have t123 := (t1.trans t2).trans t3
      have ex : Ext S3 H3 (upd H3 p (.dK (putK ws k' v1))) := Ext.mut (Ext.refl _) sp
      have t4 : Step S M H S3 (mset M3 p (.dic (putDk kvs k' z))) (upd H3 p (.dK (putK ws k' v1))) := t123.trans (.change hm)
      exact ⟨p, _, rfl, DPut.k ha (by rw [len_held hk]; exact hl), l.nx _ _ _ _ _ q t4 (w3.change hm ⟨_, upd_same, e4, e5.go ex⟩) (e.step w t4)⟩⟩
/-- d[k] -/
def dDIx (a b : DE) : DE := fun δ M P => a δ M fun x M1 => b δ M1 fun y M2 => ∃ p kvs k d, x = .ptr p ∧ M2 p = some (.dic kvs) ∧ y = kD k ∧ valD kvs k = some d ∧ P d M2
instance pu_dix {ta tb : TE} {da db : DE} [A : PuE ta da] [B : PuE tb db] : PuE (tDGet ta tb) (dDIx da db) := ⟨fun S M σ δ H P Q w e h k =>
  A.run S M σ δ H _ _ w e h fun x S1 M1 v1 H1 p1 t1 w1 h1 => B.run S1 M1 σ δ H1 _ _ w1 (e.step w t1) p1 fun y S2 M2 v2 H2 p2 t2 w2 h2 => by
    obtain ⟨p, kvs, k', d, rfl, hm, rfl, hv, p2⟩ := p2
    have ev := dt_kD h2
    subst ev
    cases h1
    obtain ⟨_, ws, ha, hk, hs⟩ := w2.mem p _ hm
    rcases val_held hk hs k' with ⟨e1, e2⟩ | ⟨d', v, e1, e2, e3⟩
    · rw [hv] at e1; cases e1
    · rw [hv] at e1; cases e1
      exact ⟨p, v, rfl, e2 ▸ DGet.k ha, k _ _ _ _ _ p2 (t1.trans t2) w2 e3⟩⟩
/-- k in d -/
def dDIn (a b : DE) : DE := fun δ M P => a δ M fun y M1 => b δ M1 fun x M2 => ∃ p kvs k, x = .ptr p ∧ M2 p = some (.dic kvs) ∧ y = kD k ∧ P (.bl (valD kvs k).isSome) M2
instance pu_din {ta tb : TE} {da db : DE} [A : PuE ta da] [B : PuE tb db] : PuE (tDIn ta tb) (dDIn da db) := ⟨fun S M σ δ H P Q w e h k =>
  A.run S M σ δ H _ _ w e h fun y S1 M1 v1 H1 p1 t1 w1 h1 => B.run S1 M1 σ δ H1 _ _ w1 (e.step w t1) p1 fun x S2 M2 v2 H2 p2 t2 w2 h2 => by
    obtain ⟨p, kvs, k', rfl, hm, rfl, p2⟩ := p2
    have ev := dt_kD h1
    subst ev
    cases h2
    obtain ⟨_, ws, ha, hk, hs⟩ := w2.mem p _ hm
    refine ⟨p, valV ws k', rfl, DGet.k ha, ?_⟩
    rcases val_held hk hs k' with ⟨e1, e2⟩ | ⟨d', v, e1, e2, e3⟩
    · rw [e2]
      rw [e1] at p2
      exact k _ _ _ _ _ p2 (t1.trans t2) w2 (.bl _)
    · rw [e2]
      rw [e1] at p2
      exact k _ _ _ _ _ p2 (t1.trans t2) w2 (.bl _)⟩
/-- len(d) -/
def rLenDK : List V → Hp → VK → Prop := fun xs H Q => ∃ (a : Addr) (kvs : List (Key × V)), xs = [.ref a] ∧ H a = some (.dK kvs) ∧ Q (.int (kvs.length : Nat)) H
def rLenD1 : DC := fun ds M P => ∃ p kvs, ds = [.ptr p] ∧ M p = some (.dic kvs) ∧ P (.int (kvs.length : Nat)) M
instance cb_lenD : CbD rLenDK rLenD1 := ⟨fun S M H vs ds P Q w hv h k => by
  obtain ⟨p, kvs, rfl, hm, p1⟩ := h
  match vs, hv with
  | [v], .cons h1 .nil =>
    cases h1
    obtain ⟨_, ws, ha, hk, hs⟩ := w.mem p _ hm
    exact ⟨p, ws, rfl, ha, by rw [len_held hk]; exact k _ _ _ _ _ p1 .refl w (.int _)⟩⟩
section
variable {δ : Dl} {M : Mem} {P : QD} {a b c : DE}
theorem x_dget2 (h : a δ M fun x M1 => ∃ p, x = .ptr p ∧ (∃ kvs, M1 p = some (.dic kvs)) ∧ b δ M1 fun y M2 => c δ M2 fun z M3 => ∃ kvs k, M3 p = some (.dic kvs) ∧ y = kD k ∧ P ((valD kvs k).getD z) M3) : dDGet2 a b c δ M P := h
theorem x_dput {nx rt bk ct} (h : c δ M fun z M1 => a δ M1 fun x M2 => b δ M2 fun y M3 => ∃ p kvs k, x = .ptr p ∧ M3 p = some (.dic kvs) ∧ y = kD k ∧ kvs.length < sizeLine ∧ nx δ (mset M3 p (.dic (putDk kvs k z)))) : sDPutD a b c nx rt bk ct δ M := h
theorem x_dnew (h : ∀ a, M a = none → P (.ptr a) (mset M a (.dic []))) : dDNew δ M P := h
end
instance ip_IC1 {C : Int → Int → Prop} {f : Int → Int → V} {g : Int → Int → D} [F : VD f g] : IpD (rI C f) (rIC1 C g) := ⟨fun S M H x y dx dy P Q w hx hy h k => by
  obtain ⟨i, j, rfl, rfl, c, p⟩ := h
  cases hx; cases hy
  exact ⟨i, j, rfl, rfl, c, k _ S M _ H p .refl w (F.run S H i j)⟩⟩
section
variable {S S' : Addr → Prop} {M M' M0 : Mem} {H H' : Hp}
theorem Step.less (t : Step S M H S' M' H') (l : Mle M0 M') : Step S M H S' M0 H' := ⟨fun b o h e => by
  obtain ⟨e1, h1, s1⟩ := t.keep b o h e
  refine ⟨e1, ?_, s1⟩
  cases z : M0 b with
  | none => rfl
  | some mo => rw [l b mo z] at h1; cases h1⟩
variable {P : Program} {w : World} {K : PySem.W.Frag} {mg : Str → Option Value} {base : Heap} {x qual : Str} {st : Stmt} {f : Addr} {fd : FuncData} {N ps : List Str} {k : Nat} {sp : DC}
/-- a def that leaves things of its own making behind -/
theorem fnDW (F : L2.Fun K x qual st f fd) (S : FnScope N ps (L2.defScope st)) (len : ∀ ds M P, sp ds M P → ds.length = ps.length)
    (hb : ∀ (cdv : Value) (A : Around) (outer : List Env) (s : Shared) (H : Hp) (E : XK), Room k (A.deeper (envOfC qual (L2.defScope st) s.heap.objs.size f cdv)) →
      ∃ t, PSs (cxOf L2.CX0 P w K mg base N qual (L2.defScope st) f cdv A outer s H E).nox (L2.defBody st) t ∧ ∃ dt, PuS t dt ∧ ∀ ds M R, sp ds M R → dt (fun _ M' => ∃ M0, Mle M0 M' ∧ R .non M0) (fun d M' => ∃ M0, Mle M0 M' ∧ R d M0) (fun _ _ => False) (fun _ _ => False) (startD N ds) M) :
    FnOk P w K mg base L2.CX0 (k + 1) f fd ps (lift sp) :=
  F.ok S (liftLen len) fun cdv A outer s H vs Q E hr h => by
    obtain ⟨t, ht, dt, A, go⟩ := hb cdv A outer s H E hr
    refine ⟨t, ht, ?_⟩
    obtain ⟨S, M, ds, R, w, h, p, k⟩ := h
    refine A.run S M _ _ H _ _ _ _ _ w (en_start N h) (go ds M R p) ⟨fun δ' S' M' σ' H' q t w e => ?_, ?_, fun _ _ _ _ _ q => q.elim, fun _ _ _ _ _ q => q.elim⟩
    · obtain ⟨M0, l, q⟩ := q
      exact k _ S' M0 _ H' q (t.less l) (w.drop l) .non
    · rintro d S' M' v H' ⟨M0, l, q⟩ t w' hv
      exact k d S' M0 v H' q (t.less l) (w'.drop l) hv
theorem mle_refl : Mle M M := fun _ _ h => h
theorem mle_set {a : Addr} {o : MO} (h : M a = none) : Mle M (mset M a o) := fun b mo e => by
  rw [mset_ne (fun z => by rw [z, h] at e; cases e)]
  exact e
end
end V
namespace V
open PySem PySem.Spec PyProof.Rows L2 U StX
theorem cd_get {x : Str} {i c : Nat} (h : x.cps[i]? = some c) : (cd x)[i]? = some c := by
  show x.cps.toList[i]? = some c
  rw [Array.getElem?_toList]; exact h
def ItzLS (K : PySem.W.Frag) (a : Addr) (x : Str) : It :=
  ⟨fun i H => ∃ (xs : List V) (v : V), SqL K H a xs ∧ xs[i]? = some v ∧ i < (cd x).length,
    fun i H v H' => ∃ T y c, v = .ref T ∧ H T = none ∧ H' = upd H T (.tup [y, .str (one c)]) ∧ (∀ xs, SqL K H a xs → xs[i]? = some y) ∧ (cd x)[i]? = some c,
    fun i H => ∃ xs : List V, SqL K H a xs ∧ i ≤ xs.length ∧ i ≤ (cd x).length ∧ (i = xs.length ∨ i = (cd x).length)⟩
def iZipLS (K : PySem.W.Frag) (ta : TA) : TI := fun σ H R => ta σ H fun vs H1 => ∃ a x xs, vs = [.ref a, .str x] ∧ SqL K H1 a xs ∧ R (ItzLS K a x) H1
/-- over data -/
def diZS (a : DA) : DI := fun δ M P => a δ M fun vs M1 => ∃ xs z, vs = [.lst xs, .str z] ∧ P (fun _ => True) (zipD xs ((cd z).map sgn)) M1
instance pu_iZS {K : PySem.W.Frag} {tt : TA} {dd : DA} [A : PuA tt dd] : PuI (iZipLS K tt) (diZS dd) := ⟨fun S M σ δ H P R w e h k =>
  A.run S M σ δ H _ _ w e h fun d S1 M1 v H1 p1 t1 w1 h1 => by
    obtain ⟨xs, z, rfl, p1⟩ := p1
    match v, h1 with
    | [.ref a, .str _], .cons h2 (.cons (.str _) .nil) =>
      have sa := stay_lst w1 h2
      obtain ⟨vs, ha, hs⟩ := sa _ _ _ .refl w1 trivial
      have ll : ((cd z).map sgn).length = (cd z).length := List.length_map _
      refine ⟨a, z, vs, rfl, SqL.of ha, k _ _ S1 M1 H1 _ p1 t1 w1 ⟨fun S' M' H' t w' _ => ?_, fun i S' M' H' hi t w' _ => ?_, fun i S' M' H' x H2 hi t w' _ y => ?_⟩⟩
      · obtain ⟨vs, h4, h5⟩ := sa _ _ _ t w' trivial
        refine ⟨vs, SqL.of h4, ?_⟩
        rw [zipD_len, h5.length, ll]
        omega
      · obtain ⟨vs, h4, h5⟩ := sa _ _ _ t w' trivial
        rw [zipD_len, ll] at hi
        have l1 := h5.length
        exact ⟨vs, vs[i], SqL.of h4, at_some (by omega), by omega⟩
      · obtain ⟨vs, h4, h5⟩ := sa _ _ _ t w' trivial
        obtain ⟨T, y0, c, rfl, nT, rfl, q1, q2⟩ := y
        obtain ⟨d, e1, e2⟩ := h5.getV (q1 vs (SqL.of h4))
        have e3 : ((cd z).map sgn)[i]? = some (.str (one c)) := by
          rw [List.getElem?_map, q2]
          rfl
        exact ⟨Same.new nT, _, zipD_get e1 e3, .tup (w'.ns nT) upd_same (.cons (e2.sm (Same.new nT)) (.cons (.str _) .nil))⟩⟩
end V
namespace V
open PySem PySem.Spec PyProof.Rows L2 U StX
def ItzSS (y x : Str) : It :=
  ⟨fun i H => i < (cd y).length ∧ i < (cd x).length,
    fun i H v H' => ∃ T e c, v = .ref T ∧ H T = none ∧ H' = upd H T (.tup [.str (one e), .str (one c)]) ∧ (cd y)[i]? = some e ∧ (cd x)[i]? = some c,
    fun i H => i ≤ (cd y).length ∧ i ≤ (cd x).length ∧ (i = (cd y).length ∨ i = (cd x).length)⟩
def iZipSS (K : PySem.W.Frag) (ta : TA) : TI := fun σ H R => ta σ H fun vs H1 => ∃ y x, vs = [.str y, .str x] ∧ R (ItzSS y x) H1
def diZSS (a : DA) : DI := fun δ M P => a δ M fun vs M1 => ∃ y z, vs = [.str y, .str z] ∧ P (fun _ => True) (zipD ((cd y).map sgn) ((cd z).map sgn)) M1
instance pu_iZSS {K : PySem.W.Frag} {tt : TA} {dd : DA} [A : PuA tt dd] : PuI (iZipSS K tt) (diZSS dd) := ⟨fun S M σ δ H P R w e h k =>
  A.run S M σ δ H _ _ w e h fun d S1 M1 v H1 p1 t1 w1 h1 => by
    obtain ⟨y, z, rfl, p1⟩ := p1
    match v, h1 with
    | [.str _, .str _], .cons (.str _) (.cons (.str _) .nil) =>
      have l1 : ((cd y).map sgn).length = (cd y).length := List.length_map _
      have l2 : ((cd z).map sgn).length = (cd z).length := List.length_map _
      refine ⟨y, z, rfl, k _ _ S1 M1 H1 _ p1 t1 w1 ⟨fun S' M' H' t w' _ => ?_, fun i S' M' H' hi t w' _ => ?_, fun i S' M' H' x H2 hi t w' _ q => ?_⟩⟩
      · rw [zipD_len, l1, l2]
        show _ ≤ _ ∧ _ ≤ _ ∧ _
        omega
      · rw [zipD_len, l1, l2] at hi
        show _ < _ ∧ _ < _
        omega
      · obtain ⟨T, e, c, rfl, nT, rfl, q1, q2⟩ := q
        have e1 : ((cd y).map sgn)[i]? = some (.str (one e)) := by
          rw [List.getElem?_map, q1]
          rfl
        have e3 : ((cd z).map sgn)[i]? = some (.str (one c)) := by
          rw [List.getElem?_map, q2]
          rfl
        exact ⟨Same.new nT, _, zipD_get e1 e3, .tup (w'.ns nT) upd_same (.cons (.str _) (.cons (.str _) .nil))⟩⟩
theorem dtA_upd {S : Addr → Prop} {H : Hp} {v : V} {d : D} (h : Dt S H v d) : ∀ {vs : List V} {ds : List D} (j : Nat), DtA S H vs ds → DtA S H (vs.set j v) (ds.set j d)
  | _, _, _, .nil => .nil
  | _, _, 0, .cons _ h2 => .cons h h2
  | _, _, j + 1, .cons h1 h2 => .cons h1 (dtA_upd h j h2)
/-- xs[i] = v -/
def dgSub (a b : DE) : DG := fun d δ M P => a δ M fun x M1 => b δ M1 fun y M2 => ∃ p xs k j, x = .ptr p ∧ y = .int k ∧ M2 p = some (.lst xs) ∧ ixN xs.length k = some j ∧ P δ (mset M2 p (.lst (xs.set j d)))
instance pu_gSub {ta tb : TE} {da db : DE} [A : PuE ta da] [B : PuE tb db] : PuG (gSub ta tb rSetL) (dgSub da db) [] := ⟨fun S M σ δ H v d P R w e h p k =>
  A.run S M σ δ H _ _ w e p fun x S1 M1 v1 H1 p1 t1 w1 h1 => B.run S1 M1 σ δ H1 _ _ w1 (e.step w t1) p1 fun y S2 M2 v2 H2 p2 t2 w2 h2 => by
    obtain ⟨q, xs, n, j, rfl, rfl, hm, hj, p2⟩ := p2
    cases h2
    have h1 := dt_step w1 t2 _ h1
    cases h1
    obtain ⟨sq, vs, ha, hs⟩ := w2.mem q _ hm
    have hv := dt_step w (t1.trans t2) _ h
    have ex : Ext S2 H2 (upd H2 q (.lst (vs.set j v))) := Ext.mut (Ext.refl _) sq
    have t4 : Step S M H S2 (mset M2 q (.lst (xs.set j d))) (upd H2 q (.lst (vs.set j v))) := (t1.trans t2).trans (.change hm)
    exact ⟨q, vs, n, j, rfl, rfl, ha, by rw [hs.length]; exact hj, k δ S2 _ σ _ p2 t4 (w2.change hm ⟨_, upd_same, (dtA_upd hv j hs).go ex⟩) (e.step w t4) fun _ _ => rfl⟩⟩
def rGtD (K : PySem.W.Frag) : R2 := fun x y H Q => ∃ d e, Dp K H x d ∧ Dp K H y e ∧ PySem.W.alike d e = true ∧ d ≠ .none ∧ min d.depth e.depth < 64 ∧ Q (.bl (PySem.W.dataLt e d)) H
def rGtP1 : DR := fun x y M P => ∃ (n m : Int) (z u : Str), x = .tup [.int n, .str z] ∧ y = .tup [.int m, .str u] ∧ P (.bl (if m = n then decide (cd u < cd z) else decide (m < n))) M
instance op_gtP1 {K : PySem.W.Frag} : OpD (rGtD K) rGtP1 := ⟨fun S M H x y dx dy P Q w hx hy h k => by
  obtain ⟨n, m, z, u, rfl, rfl, p⟩ := h
  have e1 : D.py (.tup [.int n, .str z]) = some (.tuple [.int n, .str z]) := by simp [D.py, D.pys]
  have e2 : D.py (.tup [.int m, .str u]) = some (.tuple [.int m, .str u]) := by simp [D.py, D.pys]
  refine ⟨_, _, Dt.dp _ hx e1, Dt.dp _ hy e2, by simp [PySem.W.alike, PySem.W.alikeAll], by simp, by simp [PyData.depth, PyData.depthAll], ?_⟩
  rw [lt_np]
  exact k _ S M _ H p .refl w (.bl _)⟩
end V
namespace V
open PySem PySem.Spec PyProof.Rows L2 U StX
/-- a text is shown as the views say -/
def fits (vs : List (List Sh × Str)) (z : Str) : Prop := ∀ v ∈ vs, showS v.1 z = v.2
end V
namespace V
open PySem PySem.Spec PyProof.Rows L2 U StX
end V
namespace V
open PySem PySem.Spec PyProof.Rows L2 U StX
end V
namespace V
open PySem PySem.Spec PyProof.Rows L2 U StX
structure PyBg (W k : Nat) (p : PyData) : Prop where
  lay : p.canLay0 = true
  itx : PyData.intsShort 1000 p = true
  sh : PyData.showable p = true
  nd : PyData.hasDict p = false
  dep : PyData.depth p ≤ k
  wt : PyData.weight p ≤ W
structure PysBg (W k : Nat) (ps : List PyData) : Prop where
  lay : PyData.canLayAll0 ps = true
  itx : PyData.intsShortAll 1000 ps = true
  sh : PyData.showableAll ps = true
  nd : PyData.hasDictAll ps = false
  dep : PyData.depthAll ps ≤ k
  wt : PyData.weightAll ps ≤ W
theorem PysBg.nil (W k : Nat) : PysBg W k [] := ⟨rfl, rfl, rfl, rfl, Nat.zero_le _, Nat.zero_le _⟩
theorem PysBg.cons {W W' k : Nat} {p : PyData} {ps : List PyData} (a : PyBg W k p) (b : PysBg W' k ps) : PysBg (W + 1 + W') k (p :: ps) := by
  obtain ⟨a1, a2, a3, a4, a5, a6⟩ := a
  obtain ⟨b1, b2, b3, b4, b5, b6⟩ := b
  refine ⟨?_, ?_, ?_, ?_, ?_, ?_⟩
  · rw [PyData.canLayAll0, a1, b1]; rfl
  · rw [PyData.intsShortAll, a2, b2]; rfl
  · rw [PyData.showableAll, a3, b3]; rfl
  · rw [PyData.hasDictAll, a4, b4]; rfl
  · rw [PyData.depthAll]; omega
  · rw [PyData.weightAll]; omega
theorem PyBg.mono {W W' k k' : Nat} {p : PyData} (a : PyBg W k p) (h : W ≤ W') (h2 : k ≤ k') : PyBg W' k' p := ⟨a.lay, a.itx, a.sh, a.nd, Nat.le_trans a.dep h2, Nat.le_trans a.wt h⟩
theorem PysBg.list {W k : Nat} {ps : List PyData} (a : PysBg W k ps) : PyBg W (k + 1) (.list ps) :=
  ⟨by rw [PyData.canLay0]; exact a.lay, by rw [PyData.intsShort]; exact a.itx, by rw [PyData.showable]; exact a.sh, by rw [PyData.hasDict]; exact a.nd, by rw [PyData.depth]; have := a.dep; omega, by rw [PyData.weight]; exact a.wt⟩
theorem PysBg.tuple {W k : Nat} {ps : List PyData} (a : PysBg W k ps) : PyBg W (k + 1) (.tuple ps) :=
  ⟨by rw [PyData.canLay0]; exact a.lay, by rw [PyData.intsShort]; exact a.itx, by rw [PyData.showable]; exact a.sh, by rw [PyData.hasDict]; exact a.nd, by rw [PyData.depth]; have := a.dep; omega, by rw [PyData.weight]; exact a.wt⟩
theorem PyBg.int {i : Int} {b : Nat} (h : i.natAbs < 2 ^ b) (h0 : 0 < b) (hb : b ≤ 900) : PyBg b 0 (.int i) := by
  have l : i.natAbs.log2 < b := by
    by_cases z : i.natAbs = 0
    · rw [z]; exact h0
    · exact (Nat.log2_lt z).mpr h
  refine ⟨rfl, ?_, ?_, rfl, by rw [PyData.depth]; exact Nat.le_refl _, ?_⟩
  · rw [PyData.intsShort]
    have e := int_text_length_le (k := b) h0 l
    refine decide_eq_true ?_
    show (Str.ofString (toString i)).length ≤ 1000
    rw [PySem.ofString_length]
    omega
  · rw [PyData.showable]
    exact decide_eq_true (by omega)
  · rw [PyData.weight]
    split <;> omega
def bgP (W k : Nat) (d : D) : Prop := ∃ p, D.py d = some p ∧ PyBg W k p
def bgPs (W k : Nat) (ds : List D) : Prop := ∃ ps, D.pys ds = some ps ∧ PysBg W k ps
theorem bgPs.nil (W k : Nat) : bgPs W k [] := ⟨[], by rw [D.pys], .nil _ _⟩
theorem bgPs.cons {W W' k : Nat} {d : D} {ds : List D} : bgP W k d → bgPs W' k ds → bgPs (W + 1 + W') k (d :: ds) := fun ⟨p, e, a⟩ ⟨ps, e2, b⟩ => ⟨p :: ps, by rw [D.pys, e, e2], .cons a b⟩
theorem bgPs.all {W k : Nat} : ∀ {ds : List D}, (∀ d ∈ ds, bgP W k d) → bgPs (ds.length * (W + 1)) k ds
  | [], _ => bgPs.nil _ _
  | d :: ds, h => by
    obtain ⟨ps, e, a⟩ := bgPs.cons (h d List.mem_cons_self) (bgPs.all fun x hx => h x (List.mem_cons_of_mem _ hx))
    have q : (ds.length + 1) * (W + 1) = W + 1 + ds.length * (W + 1) := by rw [Nat.add_mul, Nat.one_mul, Nat.add_comm]
    rw [List.length_cons, q]
    exact ⟨ps, e, a⟩
theorem bgPs.list {W k : Nat} {ds : List D} : bgPs W k ds → bgP W (k + 1) (.lst ds) := fun ⟨ps, e, a⟩ => ⟨.list ps, by rw [D.py, e]; rfl, a.list⟩
theorem bgPs.tuple {W k : Nat} {ds : List D} : bgPs W k ds → bgP W (k + 1) (.tup ds) := fun ⟨ps, e, a⟩ => ⟨.tuple ps, by rw [D.py, e]; rfl, a.tuple⟩
theorem bgP.mono {W W' k k' : Nat} {d : D} : bgP W k d → W ≤ W' → k ≤ k' → bgP W' k' d := fun ⟨p, e, a⟩ h h2 => ⟨p, e, a.mono h h2⟩
theorem bgP.int {i : Int} {b : Nat} (h : i.natAbs < 2 ^ b) (h0 : 0 < b := by decide) (hb : b ≤ 900 := by decide) : bgP b 0 (.int i) := ⟨_, by rw [D.py], .int h h0 hb⟩
theorem bgP.bl (b : Bool) : bgP 0 0 (.bl b) := ⟨_, by rw [D.py], ⟨rfl, rfl, rfl, rfl, by rw [PyData.depth]; exact Nat.le_refl _, by rw [PyData.weight]; exact Nat.le_refl _⟩⟩
theorem bgP.non : bgP 0 0 .non := ⟨_, by rw [D.py], ⟨rfl, rfl, rfl, rfl, by rw [PyData.depth]; exact Nat.le_refl _, by rw [PyData.weight]; exact Nat.le_refl _⟩⟩
theorem bgP.str {z : Str} {n : Nat} (h : ∀ c ∈ cd z, c < 0x110000) (hn : (cd z).length ≤ n) : bgP n 0 (.str z) := by
  refine ⟨_, by rw [D.py], ?_, rfl, rfl, rfl, by rw [PyData.depth]; exact Nat.le_refl _, ?_⟩
  · rw [PyData.canLay0]
    unfold PyData.strOk
    rw [← Array.all_toList, List.all_eq_true]
    exact fun c hc => decide_eq_true (h c hc)
  · rw [PyData.weight]
    rw [cd_len] at hn
    exact hn
end V
namespace V
open PySem PySem.Spec PyProof.Rows L2 U StX
instance pu_revT {K : PySem.W.Frag} {ta : TE} {da : DE} [A : PuE ta da] : PuE (tRevT K ta) (dRevT da) := ⟨fun S M σ δ H P Q w e h k =>
  A.run S M σ δ H _ _ w e h fun d S1 M1 v H1 p1 t1 w1 h1 => by
    obtain ⟨xs, rfl, p1⟩ := p1
    cases h1 with
    | @tup a vs _ n ha hs =>
      exact ⟨a, vs, rfl, SqT.of ha, fun p np => k _ S1 M1 _ _ p1 (t1.trans (.new np)) (w1.new np) (.tup (w1.ns np) upd_same (hs.reverse.sm (Same.new np)))⟩⟩
end V
namespace V
open PySem PySem.Spec PyProof.Rows L2 U StX
section
variable {X : Cx} {k i : Nat} {f : Addr} {fd : FuncData} {ps : List Str} {sp : DC} {x : Str} {p pos : Pos} {e : Expr} {es : List Expr} {t : TA}
theorem pe_locD (F : FnOk X.prog X.w X.K X.mg X.base L2.CX0 k f fd ps (lift sp)) (hr : Room k X.A) (hk : PySem.W.keepIn X.K (.ref f) = true) (hb : Binds X.K fd ps []) (ha : PA X (e :: es) t)
    (hN : X.N[i]? = some x := by rfl) (hv : Vis X.env.scope x := by first | exact .inl rfl | exact .inr (.inl rfl) | exact .inr (.inr rfl))
    (hdb : (x == ("__debug__" : Str)) = false := by decide) (hcd : (x == ("__classdict__" : Str)) = false := by decide)
    (he : starEach (e :: es) X.env = (false, eval e X.env) :: starEach es X.env := by rfl) (hpl : (backTo pos (starEach es X.env)).any (·.1) = false := by rfl) :
    PE X (.Call (.Name x p) (e :: es) [] pos) (tCallL i f (lift sp) [] L2.E0 t) := pe_callL F hr hN hv hk hb .nil pass0 ha hdb hcd he hpl
end
def dCallL (i : Nat) (f : Addr) (sp : DC) (t : DA) : DE := fun δ M P => δ[i]? = some (some (.ptr f)) ∧ t δ M fun ds M1 => sp ds M1 P
instance pu_callL {i : Nat} {f : Addr} {sp : DC} {E : XK} {t : TA} {dt : DA} [A : PuA t dt] : PuE (tCallL i f (lift sp) [] E t) (dCallL i f sp dt) := ⟨fun S M σ δ H P Q w e h k => by
  obtain ⟨v, hv, hd⟩ := e.at_ i _ h.1
  cases hd
  exact ⟨hv, A.run S M σ δ H _ _ w e h.2 fun ds S1 M1 vs H1 p1 t1 w1 h1 => by
    rw [List.append_nil]
    exact ⟨S1, M1, ds, P, w1, h1, p1, k.go t1⟩⟩⟩
def iKT (K : PySem.W.Frag) (a : Addr) (l : List Str) : TI := fun σ H R => (∀ H, SqT K H a (l.map V.str)) → iTup K (tC (.ref a)) σ H R
def diKT (l : List Str) : DI := fun _ M P => P (fun _ => True) (l.map D.str) M
theorem walks_KT {S : Addr → Prop} {M : Mem} {H : Hp} {K : PySem.W.Frag} {a : Addr} {l : List Str} {G : Mem → Prop} (q : ∀ H, SqT K H a (l.map V.str)) : Walks (Itt K a) G S M H (l.map D.str) where
  stop S' M' H' t w g := ⟨_, q H', by rw [List.length_map, List.length_map]; exact Nat.le_refl _⟩
  go i S' M' H' hi t w g := ⟨l.map V.str, (l.map V.str)[i]'(by rw [List.length_map] at hi ⊢; exact hi), q H', at_some _⟩
  yld i S' M' H' x H2 hi t w g y := by
    obtain ⟨rfl, y⟩ := y
    have y := y _ (q H2)
    rw [List.getElem?_map] at y
    obtain ⟨z, hz, rfl⟩ := Option.map_eq_some_iff.mp y
    exact ⟨Same.refl _, .str z, by rw [List.getElem?_map, hz]; rfl, .str z⟩
instance pu_iKT {K : PySem.W.Frag} {a : Addr} {l : List Str} : PuI (iKT K a l) (diKT l) := ⟨fun S M σ δ H P R w e h k q => ⟨a, rfl, ⟨_, q H⟩, k _ _ S M H _ h .refl w (walks_KT q)⟩⟩
def tLcM (wi : TI) (g : TG) (tt : TT) (te : TE) (vs : List Nat) : TE := tLc wi g tt te vs
def thawP (P : QD) : QD := fun d M1 => ∃ xs, d = .lst xs ∧ ∀ a, M1 a = none → P (.ptr a) (mset M1 a (.lst xs))
def dLcM (i : DI) (g : DG) (t : DT) (a : DE) (vs : List Nat) : DE := fun δ M P => dLc i g t a vs δ M (thawP P)
instance pu_lcM {ti : TI} {g : TG} {t : TT} {ta : TE} {di : DI} {dg : DG} {dt : DT} {da : DE} {sl vs : List Nat} [I : PuI ti di] [A : PuG g dg sl] [sub : SubL sl vs] [T : PuT t dt] [B : PuE ta da] : PuE (tLcM ti g t ta vs) (dLcM di dg dt da vs) := ⟨fun S M σ δ H P Q w e h k =>
  I.run S M σ δ H _ _ w e h fun G xs S1 M1 H1 J p1 t1 w1 wk => by
    intro D0 hD
    obtain ⟨g1, hn, p1⟩ := p1
    -- what stands between the turns
    let Iv : Nat → Hp → Prop := fun i H' => ∃ S' M' acc ws, G M' ∧ dGather G dg dt da vs δ (thawP P) (xs.drop i) acc M' ∧ Step S1 M1 H1 S' M' H' ∧ Wo S' M' H' ∧ En S' H' σ δ ∧ S' D0 ∧ M' D0 = none ∧ H' D0 = some (.lst ws) ∧ DtA S' H' ws acc ∧ acc.length ≤ i
    refine ⟨fun i m H' => i ≤ xs.length ∧ m = xs.length - i ∧ Iv i H', ⟨_, Nat.zero_le _, rfl, (fun a => S1 a ∨ a = D0), M1, [], [], g1, p1, .apart hD, w1.apart hD, (e.step w t1).step w1 (.apart hD), .inr rfl, w1.fresh hD, upd_same, .nil, Nat.zero_le _⟩, ?_⟩
    rintro i m H2 ⟨hi, rfl, S2, M2, acc, ws, g2, p2, t2, w2, e2, sD, mD, hL, hA, hlen⟩
    by_cases hlt : i < xs.length
    · refine .inr ⟨wk.go i S2 M2 H2 hlt t2 w2 g2, Iv (i + 1), fun H' q => ⟨_, by omega, hlt, rfl, q⟩, ?_⟩
      intro x H3 y
      obtain ⟨same, d, hd, hx⟩ := wk.yld i S2 M2 H2 x H3 hlt t2 w2 g2 y
      rw [drop_cons hd] at p2
      have t3 : Step S2 M2 H2 S2 M2 H3 := .same same
      have w3 := w2.same same
      have e3 := e2.step w2 t3
      refine A.run S2 M2 _ _ H3 x d _ _ w3 (e3.wipe vs) hx p2 fun δ4 S4 M4 σ4 H4 p4 t4 w4 e4 o4 => ⟨by rw [o4 vs sub.h, wipe_wipe], ?_⟩
      refine T.run S4 M4 σ4 δ4 H4 _ _ w4 e4 p4 fun b S5 M5 H5 p5 t5 w5 => ?_
      have t25 := (t3.trans t4).trans t5
      obtain ⟨hL5, mD5, sD5⟩ := t25.keep _ _ mD hL
      have hA5 := dtA_step w2 t25 _ hA
      cases b with
      | true =>
        rw [if_pos rfl] at p5 ⊢
        refine B.run S5 M5 σ4 δ4 H5 _ _ w5 (e4.step w4 t5) p5 fun y S6 M6 v H6 p6 t6 w6 h6 => ?_
        obtain ⟨hL6, mD6, sD6⟩ := t6.keep _ _ mD5 hL5
        have hA6 := dtA_step w5 t6 _ hA5
        have sd : S6 D0 := sD6.mpr (sD5.mpr sD)
        have ex : Ext S6 H6 (upd H6 D0 (.lst (ws ++ [v]))) := Ext.mut (Ext.refl _) sd
        refine ⟨ws, hL6, by rw [hA.length]; exact Nat.lt_of_le_of_lt hlen (Nat.lt_of_lt_of_le hlt (by rw [sizeLine_eq]; exact hn)), S6, M6, acc ++ [y], ws ++ [v], p6.1, p6.2, ?_, ?_, ?_, sd, mD6, upd_same, (hA6.snoc h6).go ex, by rw [List.length_append, List.length_singleton]; omega⟩
        · have t16 := (t2.trans t25).trans t6
          refine ⟨fun b o n hb => ?_⟩
          obtain ⟨q1, q2, q3⟩ := t16.keep b o n hb
          exact ⟨(upd_ne (ne_of_none hb hD)).trans q1, q2, q3⟩
        · refine ⟨fun a s => ?_, fun a mo q => ?_⟩
          · by_cases c : a = D0
            · rw [c, upd_same]; exact fun z => nomatch z
            · rw [upd_ne c]; exact w6.tr a s
          · obtain ⟨s, q2⟩ := w6.mem a mo q
            have c : a ≠ D0 := by rintro rfl; rw [mD6] at q; cases q
            exact ⟨s, held_ext ex (fun u hu => (upd_ne c).trans hu) q2⟩
        · have e6 : En S6 H6 σ δ := e3.step w3 ((t4.trans t5).trans t6)
          exact ⟨e6.len, fun i d h => by
            obtain ⟨v, h1, h2⟩ := e6.at_ i d h
            exact ⟨v, h1, h2.go ex⟩⟩
      | false =>
        rw [if_neg Bool.false_ne_true] at p5 ⊢
        exact ⟨S5, M5, acc, ws, p5.1, p5.2, t2.trans t25, w5, e2.step w2 t25, sD5.mpr sD, mD5, hL5, hA5, by omega⟩
    · have ei : i = xs.length := by omega
      subst ei
      rw [List.drop_length] at p2
      obtain ⟨zs, ez, p2⟩ := p2
      cases ez
      refine .inl ⟨wk.stop S2 M2 H2 t2 w2 g2, k (.ptr D0) S2 (mset M2 D0 (.lst acc)) _ H2 (p2 D0 mD) (t1.trans ⟨fun b o n hb => ?_⟩) ⟨w2.tr, fun a mo q => ?_⟩ (.ptr D0)⟩
      · obtain ⟨q1, q2, q3⟩ := t2.keep b o n hb
        exact ⟨q1, (mset_ne (ne_of_none hb hD)).trans q2, q3⟩
      · by_cases c : a = D0
        · subst c
          rw [mset_same] at q
          cases q
          exact ⟨sD, ws, hL, hA⟩
        · rw [mset_ne c] at q
          exact w2.mem a mo q⟩
def rInX (K : PySem.W.Frag) (neg : Bool) : R2 := fun x y H Q => ∃ p ps, Dp K H x p ∧ Dp K H y (.list ps) ∧ p.canLay0 = true ∧ PyData.depth p ≤ 40 ∧ PyData.canLayAll0 ps = true ∧ Q (.bl ((ps.any fun z => PyData.eqv z p) != neg)) H
theorem any_py {x : D} {p : PyData} (hp : D.py x = some p) : ∀ {xs : List D} {ps : List PyData}, D.pys xs = some ps → (ps.any fun z => PyData.eqv z p) = xs.any fun z => D.eqb z x
  | [], ps, h => by rw [D.pys] at h; cases h; rfl
  | d :: ds, ps, h => by
    obtain ⟨q, qs, h1, h2, rfl⟩ := pys_cons h
    rw [List.any_cons, List.any_cons, eqv_py d x q p h1 hp, any_py hp h2]
def rInX1 (neg : Bool) : DR := fun x y M P => ∃ xs W k W' k', isLs M y xs ∧ okP W k x ∧ k ≤ 40 ∧ okPs W' k' xs ∧ P (.bl ((xs.any fun z => D.eqb z x) != neg)) M
instance op_inX1 {K : PySem.W.Frag} {neg : Bool} : OpD (rInX K neg) (rInX1 neg) := ⟨fun S M H x y dx dy P Q w hx hy h k => by
  obtain ⟨xs, W, n, W', n', hs, ⟨p, ep, op⟩, hn, ⟨ps, eps, ops⟩, hp⟩ := h
  have e : D.py (.lst xs) = some (.list ps) := by rw [D.py, eps]; rfl
  have hv : vw M dy = .lst xs := by
    rcases hs with rfl | ⟨a, rfl, ha⟩
    · rfl
    · unfold vw; simp only [ha]
  have hl : Dp K H y (.list ps) := dt_vw w hy (by rw [hv]; exact e)
  refine ⟨p, ps, Dt.dp _ hx ep, hl, op.lay, Nat.le_trans op.dep hn, ops.lay, k _ S M _ H ?_ .refl w (.bl _)⟩
  rw [any_py ep eps]
  exact hp⟩
section
variable {P : Program} {w : World} {K : PySem.W.Frag} {mg : Str → Option Value} {base : Heap} {x qual : Str} {st : Stmt} {f : Addr} {fd : FuncData} {N ps : List Str} {k : Nat} {sp : DC}
theorem fnDX (F : L2.Fun K x qual st f fd) (S : FnScope N ps (L2.defScope st)) (len : ∀ ds M P, sp ds M P → ds.length = ps.length)
    (hb : ∀ (cdv : Value) (A : Around) (outer : List Env) (s : Shared) (H : Hp) (E : XK), Room k (A.deeper (envOfC qual (L2.defScope st) s.heap.objs.size f cdv)) → A.guards = some [] →
      ∃ t, PSs (cxOf L2.CX0 P w K mg base N qual (L2.defScope st) f cdv A outer s H E).nox (L2.defBody st) t ∧ ∃ dt, PuS t dt ∧ ∀ ds M R, sp ds M R → dt (fun _ M' => ∃ M0, Mle M0 M' ∧ R .non M0) (fun d M' => ∃ M0, Mle M0 M' ∧ R d M0) (fun _ _ => False) (fun _ _ => False) (startD N ds) M) :
    FnG P w K mg base (k + 1) f fd ps (lift sp) :=
  fnG_of F S (liftLen len) fun cdv A outer s H vs Q E hr hg h => by
    obtain ⟨t, ht, dt, A, go⟩ := hb cdv A outer s H E hr hg
    refine ⟨t, ht, ?_⟩
    obtain ⟨S, M, ds, R, w, h, p, k⟩ := h
    refine A.run S M _ _ H _ _ _ _ _ w (en_start N h) (go ds M R p) ⟨fun δ' S' M' σ' H' q t w e => ?_, ?_, fun _ _ _ _ _ q => q.elim, fun _ _ _ _ _ q => q.elim⟩
    · obtain ⟨M0, l, q⟩ := q
      exact k _ S' M0 _ H' q (t.less l) (w.drop l) .non
    · rintro d S' M' v H' ⟨M0, l, q⟩ t w' hv
      exact k d S' M0 v H' q (t.less l) (w'.drop l) hv
end
end V
namespace V
open PySem PySem.Spec PyProof.Rows L2 U StX
/-- how many different numbers -/
def dcn (ns : List Int) : Nat := (firstMet (fun i => ns.getD i 0) ns.length).length
def tLenSetG (K : PySem.W.Frag) (ta : TE) : TE := fun σ H Q => ta σ H fun x H1 => ∃ l ns, x = V.ref l ∧ SqL K H1 l (ns.map V.int) ∧ ns.length ≤ 4000 ∧ Q (V.int (dcn ns : Nat)) H1
def dLenSetG (a : DE) : DE := fun δ M P => a δ M fun x M1 => ∃ ns, isLs M1 x (ns.map D.int) ∧ ns.length ≤ 4000 ∧ P (.int (dcn ns : Nat)) M1
instance pu_lenSetG {K : PySem.W.Frag} {ta : TE} {da : DE} [A : PuE ta da] : PuE (tLenSetG K ta) (dLenSetG da) := ⟨fun S M σ δ H P Q w e h k =>
  A.run S M σ δ H _ _ w e h fun d S1 M1 v H1 p1 t1 w1 h1 => by
    obtain ⟨ns, h2, hn, p1⟩ := p1
    obtain ⟨a, us, rfl, ha, hs⟩ := ls_get w1 h1 h2
    have eu := hs.ints_eq
    subst eu
    exact ⟨a, ns, rfl, SqL.of ha, hn, k _ S1 M1 _ H1 p1 t1 w1 (.int _)⟩⟩
theorem nodup_lenI {α : Type} [DecidableEq α] : ∀ (l m : List α), l.Nodup → (∀ x ∈ l, x ∈ m) → l.length ≤ m.length
  | [], m, _, _ => Nat.zero_le _
  | a :: l, m, h, hs => by
    rw [List.nodup_cons] at h
    have ha : a ∈ m := hs a List.mem_cons_self
    have := nodup_lenI l (m.erase a) h.2 fun x hx => by
      have : x ≠ a := fun e => h.1 (by rw [← e]; exact hx)
      exact (List.mem_erase_of_ne this).mpr (hs x (List.mem_cons_of_mem _ hx))
    rw [List.length_erase_of_mem ha] at this
    have := List.length_pos_of_mem ha
    rw [List.length_cons]
    omega
theorem dtA_keys {S : Addr → Prop} {H : Hp} : ∀ ks : List Key, DtA S H (ks.map kV) (ks.map kD)
  | [] => .nil
  | k :: ks => .cons (by cases k with
    | inl i => exact .int i
    | inr z => exact .str z) (dtA_keys ks)
def rListDK1 : DC := fun ds M P => ∃ p kvs, ds = [.ptr p] ∧ M p = some (.dic kvs) ∧ P (.lst (kvs.map fun kv => kD kv.1)) M
instance cb_listDK : CbD rListD rListDK1 := ⟨fun S M H vs ds P Q w hv h k => by
  obtain ⟨p, kvs, rfl, hm, p1⟩ := h
  match vs, hv with
  | [v], .cons h1 .nil =>
    cases h1
    obtain ⟨_, ws, ha, hk, hs⟩ := w.mem p _ hm
    refine ⟨p, ws, rfl, ha, fun q nq => k _ S M _ _ p1 (.new nq) (w.new nq) (.lst (w.ns nq) upd_same ?_)⟩
    have e1 : (ws.map fun kv => kV kv.1) = (ws.map (·.1)).map kV := by rw [List.map_map]; rfl
    have e2 : (kvs.map fun kv => kD kv.1) = (kvs.map (·.1)).map kD := by rw [List.map_map]; rfl
    rw [e1, e2, hk]
    exact dtA_keys _⟩
end V
namespace V
open PySem PySem.Spec PyProof.Rows L2 U StX
end V
namespace V
open PySem PySem.Spec PyProof.Rows L2 U StX
/-- the places of xs[::k] -/
def stepJ (k : Int) (n : Nat) : List Nat := sliceRange (sliceBounds none none (some k) n).1 (sliceBounds none none (some k) n).2.1 (sliceBounds none none (some k) n).2.2
def stepG {α : Type} (k : Int) (xs : List α) : List α := (stepJ k xs.length).filterMap fun j => xs[j]?
theorem dtA_picked {S : Addr → Prop} {H : Hp} {vs : List V} {ds : List D} (h : DtA S H vs ds) : ∀ js : List Nat, DtA S H (js.filterMap fun j => vs[j]?) (js.filterMap fun j => ds[j]?)
  | [] => .nil
  | j :: js => by
    have ih := dtA_picked h js
    rw [List.filterMap_cons, List.filterMap_cons]
    cases e : ds[j]? with
    | none =>
      have : vs[j]? = none := List.getElem?_eq_none (by rw [h.length]; exact List.getElem?_eq_none_iff.mp e)
      rw [this]
      exact ih
    | some d =>
      obtain ⟨v, h1, h2⟩ := h.get e
      rw [h1]
      exact .cons h2 ih
def tStepL (K : PySem.W.Frag) (k : Int) (te : TE) : TE := fun σ H Q => te σ H fun x H1 => ∃ a xs, x = V.ref a ∧ SqL K H1 a xs ∧ ∀ p, H1 p = none → Q (V.ref p) (upd H1 p (.lst (stepG k xs)))
def dStepL (k : Int) (a : DE) : DE := fun δ M P => a δ M fun x M1 => ∃ xs, isLs M1 x xs ∧ P (.lst (stepG k xs)) M1
instance pu_stepL {K : PySem.W.Frag} {k : Int} {ta : TE} {da : DE} [A : PuE ta da] : PuE (tStepL K k ta) (dStepL k da) := ⟨fun S M σ δ H P Q w e h kk =>
  A.run S M σ δ H _ _ w e h fun d S1 M1 v H1 p1 t1 w1 h1 => by
    obtain ⟨xs, h2, p1⟩ := p1
    obtain ⟨a, vs, rfl, ha, hs⟩ := ls_get w1 h1 h2
    refine ⟨a, vs, rfl, SqL.of ha, fun p np => kk _ S1 M1 _ _ p1 (t1.trans (.new np)) (w1.new np) (.lst (w1.ns np) upd_same ?_)⟩
    unfold stepG
    rw [hs.length]
    exact (dtA_picked hs _).sm (Same.new np)⟩
end V
namespace V
open PySem PySem.Spec PyProof.Rows L2 U StX
/-- x != y of two instances: what __eq__ says, the other way -/
def rNeOwn (C : Addr) (sp : Sp) : R2 := fun x y H Q => ∃ a b dx dy fs gs, x = V.ref a ∧ y = V.ref b ∧ H a = some (.ins C dx fs) ∧ H b = some (.ins C dy gs) ∧ sp [.ref a, .ref b] H (fun v H' => ∃ t, v = V.bl t ∧ Q (.bl (!t)) H') L2.E0
def rNeOwnD (C : Addr) (sp : DC) : DR := fun x y M P => (∃ n1 x1 n2 x2, x = .ins C n1 x1 ∧ y = .ins C n2 x2) ∧ sp [x, y] M fun d M' => ∃ t, d = .bl t ∧ P (.bl (!t)) M'
instance op_neOwnD {C : Addr} {sp : DC} : OpD (rNeOwn C (lift sp)) (rNeOwnD C sp) := ⟨fun S M H x y dx dy P Q w hx hy h k => by
  obtain ⟨⟨n1, x1, n2, x2, rfl, rfl⟩, h⟩ := h
  have gx := hx
  have gy := hy
  cases hx with
  | ins _ ha _ _ =>
    cases hy with
    | ins _ hb _ _ =>
      refine ⟨_, _, _, _, _, _, rfl, rfl, ha, hb, S, M, _, _, w, .cons gx (.cons gy .nil), h, fun d S' M' v H' p t w' hv => ?_⟩
      obtain ⟨b, rfl, p⟩ := p
      cases hv
      exact ⟨b, rfl, k _ S' M' _ H' p t w' (.bl _)⟩⟩
end V
namespace V
open PySem PySem.Spec PyProof.Rows L2 U StX
def dPairs : List (DE × DE) → Dl → Mem → (List (D × D) → Mem → Prop) → Prop
  | [], _, M, P => P [] M
  | (a, b) :: r, δ, M, P => a δ M fun x M1 => b δ M1 fun y M2 => dPairs r δ M2 fun ps M3 => P ((x, y) :: ps) M3
class PuPs (t : List (TE × TE)) (d : outParam (List (DE × DE))) : Prop where
  run : ∀ S M σ δ H (P : List (D × D) → Mem → Prop) (Q : List (V × V) → Hp → Prop), Wo S M H → En S H σ δ → dPairs d δ M P →
    (∀ ps S' M' vs H', P ps M' → Step S M H S' M' H' → Wo S' M' H' → DtA S' H' (vs.map (·.1)) (ps.map (·.1)) → DtA S' H' (vs.map (·.2)) (ps.map (·.2)) → Q vs H') → tPairs t σ H Q
instance pups_nil : PuPs [] [] := ⟨fun S M σ δ H P Q w e h k => k [] S M [] H h .refl w .nil .nil⟩
instance pups_cons {ta tb : TE} {da db : DE} {t : List (TE × TE)} {d : List (DE × DE)} [A : PuE ta da] [B : PuE tb db] [R : PuPs t d] : PuPs ((ta, tb) :: t) ((da, db) :: d) := ⟨fun S M σ δ H P Q w e h k =>
  A.run S M σ δ H _ _ w e h fun x S1 M1 v H1 p1 t1 w1 h1 =>
    B.run S1 M1 σ δ H1 _ _ w1 (e.step w t1) p1 fun y S2 M2 u H2 p2 t2 w2 h2 =>
      R.run S2 M2 σ δ H2 _ _ w2 (e.step w (t1.trans t2)) p2 fun ps S3 M3 vs H3 p3 t3 w3 h3 h4 =>
        k ((x, y) :: ps) S3 M3 ((v, u) :: vs) H3 p3 ((t1.trans t2).trans t3) w3 (.cons (dt_step w1 (t2.trans t3) _ h1) h3) (.cons (dt_step w2 t3 _ h2) h4)⟩
theorem keys_of {S : Addr → Prop} {H : Hp} : ∀ {vs : List (V × V)} {ks : List Key}, DtA S H (vs.map (·.1)) (ks.map kD) → vs.map (·.1) = ks.map kV
  | [], [], _ => rfl
  | [], _ :: _, h => by cases h
  | _ :: _, [], h => by cases h
  | v :: vs, k :: ks, h => by
    rw [List.map_cons, List.map_cons] at h
    cases h with
    | cons h1 h2 => rw [List.map_cons, List.map_cons, keys_of h2, dt_kD h1]
theorem merge_apart : ∀ (more acc : List (Key × V)), ((acc ++ more).map (·.1)).Nodup → mergeK acc more = acc ++ more
  | [], acc, _ => by rw [List.append_nil]; rfl
  | p :: more, acc, h => by
    show mergeK (putK acc p.1 p.2) more = _
    have no : (acc.any fun kv => decide (kv.1 = p.1)) = false := by
      cases c : acc.any fun kv => decide (kv.1 = p.1) with
      | false => rfl
      | true =>
        obtain ⟨q, hq, e⟩ := List.any_eq_true.mp c
        rw [List.map_append, List.nodup_append] at h
        exact (h.2.2 _ (List.mem_map.mpr ⟨q, hq, rfl⟩) _ (List.mem_map.mpr ⟨p, List.mem_cons_self, rfl⟩) (of_decide_eq_true e)).elim
    have e : putK acc p.1 p.2 = acc ++ [p] := by
      unfold putK
      rw [no, if_neg Bool.false_ne_true]
    rw [e, merge_apart more (acc ++ [p]) (by rw [List.append_assoc]; exact h), List.append_assoc]
    rfl
def dDisp (d : List (DE × DE)) : DE := fun δ M P => ∀ a, M a = none → dPairs d δ (mset M a (.dic [])) fun ps M2 => M2 a = some (.dic []) ∧ ∃ kvs : List (Key × D), ps = kvs.map (fun kv => (kD kv.1, kv.2)) ∧ kvs.length ≤ 15 ∧ (kvs.map (·.1)).Nodup ∧ P (.ptr a) (mset M2 a (.dic kvs))
instance pu_disp {t : List (TE × TE)} {d : List (DE × DE)} [R : PuPs t d] : PuE (tDisp t) (dDisp d) := ⟨fun S M σ δ H P Q w e h k p np => by
  have w1 : Wo (fun a => S a ∨ a = p) (mset M p (.dic [])) (upd H p (.dK [])) := w.mutable np ⟨[], upd_same, rfl, .nil⟩
  have t1 : Step S M H (fun a => S a ∨ a = p) (mset M p (.dic [])) (upd H p (.dK [])) := Step.mutable w np
  refine R.run _ _ σ δ _ _ _ w1 (e.step w t1) (h p (w.fresh np)) fun ps S2 M2 vs H2 p2 t2 w2 h3 h4 => ?_
  obtain ⟨hm, kvs, rfl, hl, nd, p3⟩ := p2
  rw [List.map_map] at h3 h4
  have ek : vs.map (·.1) = (kvs.map (·.1)).map kV := keys_of (by rw [List.map_map]; exact h3)
  have hlen : vs.length = kvs.length := by
    have := congrArg List.length ek
    rwa [List.length_map, List.length_map, List.length_map] at this
  obtain ⟨_, ws0, ha, hk0, _⟩ := w2.mem p _ hm
  have e0 : ws0 = [] := List.map_eq_nil_iff.mp hk0
  subst e0
  let ws : List (Key × V) := (kvs.map (·.1)).zip (vs.map (·.2))
  have wk : ws.map (·.1) = kvs.map (·.1) := by
    show ((kvs.map (·.1)).zip (vs.map (·.2))).map Prod.fst = _
    rw [List.map_fst_zip (by rw [List.length_map, List.length_map]; omega)]
  have wv : ws.map (·.2) = vs.map (·.2) := by
    show ((kvs.map (·.1)).zip (vs.map (·.2))).map Prod.snd = _
    rw [List.map_snd_zip (by rw [List.length_map, List.length_map]; omega)]
  have ev : vs = ws.map fun kv => (kV kv.1, kv.2) := by
    have e1 : (ws.map fun kv => (kV kv.1, kv.2)).map (·.1) = vs.map (·.1) := by
      rw [ek, ← wk, List.map_map, List.map_map]; rfl
    have e2 : (ws.map fun kv => (kV kv.1, kv.2)).map (·.2) = vs.map (·.2) := by
      rw [← wv, List.map_map]; rfl
    have two : ∀ {l m : List (V × V)}, l.map (·.1) = m.map (·.1) → l.map (·.2) = m.map (·.2) → l = m := by
      intro l
      induction l with
      | nil => intro m a b; cases m with
        | nil => rfl
        | cons => cases a
      | cons x l ih => intro m a b; cases m with
        | nil => cases a
        | cons y m =>
          rw [List.map_cons, List.map_cons, List.cons.injEq] at a b
          rw [ih a.2 b.2, Prod.ext a.1 b.1]
    exact (two e1 e2).symm
  have em : mergeK [] ws = ws := merge_apart ws [] (by rw [List.nil_append, wk]; exact nd)
  refine ⟨ha, ws, ev, by rw [← List.length_map (f := Prod.fst), wk, List.length_map]; exact hl, ?_⟩
  rw [em]
  refine k (.ptr p) S2 (mset M2 p (.dic kvs)) _ _ p3 ((t1.trans t2).trans (Step.change hm)) (w2.change hm ⟨ws, upd_same, wk, ?_⟩) (.ptr p)
  rw [wv]
  have h5 : DtA S2 H2 (vs.map (·.2)) (kvs.map (·.2)) := h4
  have ex : U.Ext S2 H2 (upd H2 p (.dK ws)) := Ext.mut (Ext.refl _) (w2.mem p _ hm).1
  exact h5.go ex⟩
end V
namespace V
open PySem PySem.Spec PyProof.Rows L2 U StX
/-- one text more -/
def met1 (l : List Str) (x : Str) : List Str := if x ∈ l then l else l ++ [x]
/-- the texts met, each once -/
def metS (ts : List Str) : List Str := ts.foldl met1 []
theorem met1_mem {l : List Str} {x y : Str} : y ∈ met1 l x ↔ y ∈ l ∨ y = x := by
  unfold met1
  split
  · rename_i c
    exact ⟨.inl, fun h => h.elim id fun e => e ▸ c⟩
  · rw [List.mem_append, List.mem_singleton]
theorem metS_snoc (ts : List Str) (x : Str) : metS (ts ++ [x]) = met1 (metS ts) x := by
  unfold metS
  rw [List.foldl_append]
  rfl
theorem snoc_ind {α : Type} {p : List α → Prop} (l : List α) (nil : p []) (snoc : ∀ l x, p l → p (l ++ [x])) : p l := by
  have : ∀ m : List α, p m.reverse := fun m => by
    induction m with
    | nil => exact nil
    | cons x m ih => rw [List.reverse_cons]; exact snoc _ _ ih
  rw [← List.reverse_reverse l]
  exact this _
theorem metS_mem : ∀ (ts : List Str) {y : Str}, y ∈ metS ts ↔ y ∈ ts := by
  intro ts
  induction ts using snoc_ind with
  | nil => intro y; exact Iff.rfl
  | snoc ts x ih =>
    intro y
    rw [metS_snoc, met1_mem, ih, List.mem_append, List.mem_singleton]
theorem metS_nodup : ∀ (ts : List Str), (metS ts).Nodup := by
  intro ts
  induction ts using snoc_ind with
  | nil => exact List.nodup_nil
  | snoc ts x ih =>
    rw [metS_snoc]
    unfold met1
    split
    · exact ih
    · rename_i c
      rw [List.nodup_append]
      refine ⟨ih, by simp, fun a ha b hb e => ?_⟩
      rw [List.mem_singleton] at hb
      exact c (hb ▸ e ▸ ha)
theorem metS_len (ts : List Str) : (metS ts).length ≤ ts.length := nodup_lenI _ _ (metS_nodup ts) fun x hx => (metS_mem ts).mp hx
section
variable {prog : Program} {w : World} {A : Around} {R : Result → Shared → Prop} {E : Value → Shared → Prop} {I : Addr} {fp wr : List Addr} {G : Array GenState → Array GenState → Prop} {n : Nat} {P : Nat → Value → Prop} {St : Nat → Shared → Prop}
/-- the texts of a walk go into the set at S -/
theorem set_turns (W : WalksS prog w A.in1 I fp wr G n P St) {S : Addr} (far : S ∉ fp) {ts : List Str} (hl : ts.length = n) (hv : ∀ i v, P i v → ∃ x t, ts[i]? = some x ∧ v = .str x t) (hb : n + 1 < scanBound) : ∀ (k i : Nat) (s : Shared), n - i = k → i ≤ n → St i s →
    s.heap.SetOf (PySem.strKind prog w) S (fun z => decide (z ∈ ts.take i)) (metS (ts.take i)).length →
    (∀ s', Moved (S :: wr) G s s' → s'.heap.SetOf (PySem.strKind prog w) S (fun z => decide (z ∈ ts)) (metS ts).length → R (.ok (.ret .none)) s') → codeAny (model prog w) A (.builtin "set.update.loop" ⟨[.ref S, .ref I], []⟩) R s
  | 0, i, s, hk, hi, st, so, q => by
    obtain rfl : i = n := by omega
    rw [List.take_of_length_le (by omega)] at so
    refine codeAny_builtin PyProof.Rows.F.entry_set_update_loop ?_; rw [Around.under_plainId PyProof.Rows.F.plain_set_update_loop _]; show wpAny (model prog w) A.in1 (pyNext (.ref I) >>= _) _ _ s
    refine wpAny_bind (W.done s _ _ st fun s' mv => (?_ : wpAny (model prog w) A.in1 (ret Value.none) _ _ s'))
    obtain ⟨o, es, ep, t, ho, r⟩ := so
    exact wpAny_pure (q s' (mv.mono fun b => List.mem_cons_of_mem _) ⟨o, es, ep, t, mv.heap S _ (fun z => far (W.sub _ z)) ho, r⟩)
  | k + 1, i, s, hk, hi, st, so, q => by
    have lt : i < n := by omega
    refine codeAny_builtin PyProof.Rows.F.entry_set_update_loop ?_; rw [Around.under_plainId PyProof.Rows.F.plain_set_update_loop _]; show wpAny (model prog w) A.in1 (pyNext (.ref I) >>= _) _ _ s
    refine wpAny_bind (W.item i s _ _ lt st fun v s' hp st' mv => ?_)
    obtain ⟨x, t, hx, rfl⟩ := hv i v hp
    have so' : s'.heap.SetOf (PySem.strKind prog w) S (fun z => decide (z ∈ ts.take i)) (metS (ts.take i)).length := by
      obtain ⟨o, es, ep, tb, ho, r⟩ := so
      exact ⟨o, es, ep, tb, mv.heap S _ (fun z => far (W.sub _ z)) ho, r⟩
    have et : ts.take (i + 1) = ts.take i ++ [x] := by rw [List.take_add_one, hx]; rfl
    have key : (PySem.strKind prog w).is x (.str x t) = true := strKind_is prog w x t
    have sm := metS_len (ts.take i)
    rw [List.length_take] at sm
    show wpAny _ A.in1 (holding [Value.str x t] (setAdd S (.str x t)) >>= _) _ _ s'
    refine wpAny_bind (wpAny_holding ?_)
    unfold setAdd
    refine wpAny_holding (wpAny_bind ((PySem.strKind prog w).pyHash key (wpAny_setAddHashed_of (knd := PySem.strKind prog w) (s := { s' with toks := s'.toks + 1 }) key rfl so' (by omega) fun h' sb s2 => ?_)))
    have s3 : h'.SetOf (PySem.strKind prog w) S (fun z => decide (z ∈ ts.take (i + 1))) (metS (ts.take (i + 1))).length := by
      refine PyProof.Rows.SetOf_congr s2 (fun z => ?_) ?_
      · rw [et, ← Bool.decide_or]
        exact decide_eq_decide.mpr (by rw [List.mem_append, List.mem_singleton])
      · rw [et, metS_snoc]
        unfold met1
        simp only [metS_mem, decide_eq_true_eq]
        split
        · rfl
        · rw [List.length_append, List.length_singleton]
    refine wpAny_pure ⟨plainId_quiet PyProof.Rows.F.plain_set_update_loop _, set_turns W far hl hv hb k (i + 1) _ (by omega) lt (W.frame _ s' _ _ st' (Nat.le_succ _) fun b hm o e => (sb.2 b (fun z => far (z ▸ hm))).trans e) s3 fun s'' mw so2 => ?_⟩
    exact q s'' (Moved.trans W.gtrans ((mv.mono fun b => List.mem_cons_of_mem _).then_heap (Nat.le_succ _) fun b o hm e => (sb.2 b (fun z => hm (by rw [z]; exact List.mem_cons_self))).trans e) mw) so2
end
section
variable {prog : Program} {w : World} {A : Around} {E : Value → Shared → Prop} {s : Shared}
set_option maxHeartbeats 6400000 in
/-- set(x) of texts, x a list or a tuple -/
theorem call_setT {l nl : Nat} {T : String} {dd : Option Addr} {sl : Array (Option Value)} {items : Array Value} {it : Obj} {St : Addr → Nat → Shared → Prop} {ts : List Str} {Q : Value → Shared → Prop} (hh : A.handled = none)
    (ho : s.heap.get? l = some { cls := .type T, dict := dd, data := .seq items nl, slots := sl }) (notD : (Value.type T == Value.type "dict") = false) (notS : isSubtype (.type T) (.type "set") = pure false) (notF : isSubtype (.type T) (.type "frozenset") = pure false)
    (pit : ∀ (A : Around) (E : Value → Shared → Prop) (Q : Value → Shared → Prop) (s' : Shared), s'.heap.get? l = some { cls := .type T, dict := dd, data := .seq items nl, slots := sl } → Q (.ref s'.heap.objs.size) { s' with heap := s'.heap.push it } → wpAny (model prog w) A (pyIter (.ref l)) Q E s')
    (W : ∀ (A : Around) (I : Addr), A.handled = none → l ≠ I → WalksS prog w A I [I, l] [I] (fun a b => b = a) items.size (fun i v => items[i]? = some v) (St I))
    (st : ∀ s' : Shared, s'.heap.get? l = some { cls := .type T, dict := dd, data := .seq items nl, slots := sl } → St s'.heap.objs.size 0 { s' with heap := s'.heap.push it })
    (hz : ts.length = items.size) (hv : ∀ (i : Nat) v, items[i]? = some v → ∃ x t, ts[i]? = some x ∧ v = .str x t) (hb : items.size + 1 < scanBound)
    (h : ∀ (h' : Heap) (tk : Nat), h'.SetOf (PySem.strKind prog w) s.heap.objs.size (fun z => decide (z ∈ ts)) (metS ts).length → (∀ b o, b < s.heap.objs.size → s.heap.get? b = some o → h'.get? b = some o) → Q (.ref s.heap.objs.size) { s with heap := h', toks := tk }) :
    wpAny (model prog w) A (call (.type "set") [.ref l]) Q E s := by
  obtain ⟨c, tl, mro⟩ := PySem.F.called_set.mro; have made := PySem.F.called_set.made; have sub := PySem.F.called_set.sub
  refine wpAny_call (codeAny_of_tree (?_ : wpAny _ _ (callAny (.type "set") _) _ _ _))
  refine wpAny_pure ⟨Code.quiet_builtin _ (by decide +kernel), codeAny_builtin PySem.F.entry_type_call ?_⟩; rw [Around.under_plain (weight_type_call_type "set" [.ref l] []) rfl]
  have n1 := PySem.F.called_set.notType; have n2 := PySem.F.called_set.canCreate; have n3 := PySem.F.typeCall_set_1 (.ref l)
  (repeat any_goals (first | assumption | wp_step))
  refine codeAny_mono (PySem.code_set_new_1 (.ref l) (E := E) (Q₁ := fun ob s1 => ∃ led : Bool, ob = .ref s.heap.objs.size ∧ s1 = { s with heap := s.heap.push { cls := .type "set", dict := none, data := .set #[] 0 (.fresh 0 0 led) } }) fun led => ⟨led, rfl, rfl⟩) fun r s1 hr => ?_
  match r, hr with
  | .error e, hr => exact hr
  | .ok .next, hr => exact hr.elim
  | .ok .brk, hr => exact hr.elim
  | .ok .cont, hr => exact hr.elim
  | .ok (.ret ob), ⟨led, e1, e2⟩ =>
    subst e1; subst e2
    have gS : (s.heap.push { cls := .type "set", dict := none, data := .set #[] 0 (.fresh 0 0 led) }).get? s.heap.objs.size = some { cls := .type "set", dict := none, data := .set #[] 0 (.fresh 0 0 led) } := Heap.get?_push_size _ rfl
    have tS : Shared.TypeIs { s with heap := s.heap.push { cls := .type "set", dict := none, data := .set #[] 0 (.fresh 0 0 led) } } (.ref s.heap.objs.size) "set" := ⟨_, gS, rfl⟩
    have i1 := PySem.F.called_set.init.lookup; have i2 := PySem.F.called_set.init.bind (.ref s.heap.objs.size)
    (repeat any_goals (first | assumption | wp_step))
    refine codeAny_mono (codeAny_call_builtin (R := wants (fun r s2 => r = .none ∧ ∃ h' tk, s2 = { s with heap := h', toks := tk } ∧ h'.SetOf (PySem.strKind prog w) s.heap.objs.size (fun z => decide (z ∈ ts)) (metS ts).length ∧ (∀ b o, b < s.heap.objs.size → s.heap.get? b = some o → h'.get? b = some o)) E) PySem.F.called_set.init.plain PySem.F.entry_set_init (PySem.check_set_init_1 tS ?_)) fun r2 s2 hr2 => ?_
    · have ho1 : (s.heap.push { cls := .type "set", dict := none, data := .set #[] 0 (.fresh 0 0 led) }).get? l = some { cls := .type T, dict := dd, data := .seq items nl, slots := sl } := Heap.get?_push_of_some _ ho
      unfold Builtin.«set.__init__» noKeywords Builtin.Frozenset.updateFrom
      generalize ePI : pyIter = PI
      wp_walk
      subst ePI
      refine pit _ _ _ _ ho1 (wpAny_bind (wpAny_runValue ?_))
      have old : l < s.heap.objs.size := Heap.lt_size ho
      have sz : (s.heap.push { cls := .type "set", dict := none, data := .set #[] 0 (.fresh 0 0 led) }).objs.size = s.heap.objs.size + 1 := Heap.size_push ..
      have ne1 : l ≠ (s.heap.push { cls := .type "set", dict := none, data := .set #[] 0 (.fresh 0 0 led) }).objs.size := by rw [sz]; omega
      have far : s.heap.objs.size ∉ [(s.heap.push { cls := .type "set", dict := none, data := .set #[] 0 (.fresh 0 0 led) }).objs.size, l] := by
        rw [sz]; simp only [List.mem_cons, List.not_mem_nil, or_false, not_or]; omega
      refine set_turns (W _ _ (by simp [hh]) ne1) far hz hv hb (items.size - 0) 0 _ rfl (Nat.zero_le _) (st { s with heap := s.heap.push { cls := .type "set", dict := none, data := .set #[] 0 (.fresh 0 0 led) } } ho1) ?_ ?_
      · refine PyProof.Rows.SetOf_congr ((PyProof.Rows.setObjOf_fresh (knd := PySem.strKind prog w) led).setOf (Heap.get?_push_of_some _ gS) (by unfold scanBound; omega)) (fun z => ?_) rfl
        simp
      · intro s' mv so
        obtain ⟨h', g', d', tk', os'⟩ := s'
        obtain rfl : g' = s.gens := mv.gens
        obtain rfl : d' = s.drawn := mv.drawn
        obtain rfl : os' = s.os := mv.os
        show wpAny _ _ _ _ _ _; refine wpAny_pure ?_; show wpAny _ _ (ret Value.none) _ _ _
        refine wpAny_pure ⟨rfl, h', tk', rfl, so, fun b o hb' e => mv.heap b o ?_ (Heap.get?_push_of_some _ (Heap.get?_push_of_some _ e))⟩
        simp only [List.mem_cons, List.not_mem_nil, or_false, not_or]; exact ⟨Nat.ne_of_lt hb', Nat.ne_of_lt (by rw [sz]; exact Nat.lt_succ_of_lt hb')⟩
    · match r2, hr2 with
      | .error e, hr2 => exact hr2
      | .ok .next, hr2 => exact hr2.elim
      | .ok .brk, hr2 => exact hr2.elim
      | .ok .cont, hr2 => exact hr2.elim
      | .ok (.ret r), ⟨e1, h', tk, e2, so, keep⟩ =>
        subst e1; subst e2
        (repeat any_goals (first | assumption | wp_step))
        exact h _ _ so keep
end
theorem strs_item {ts : List Str} {its : List Value} (r : Vals (ts.map V.str) its) : ts.length = its.toArray.size ∧ ∀ (i : Nat) v, its.toArray[i]? = some v → ∃ x t, ts[i]? = some x ∧ v = .str x t := by
  have el := r.length
  rw [List.length_map] at el
  have ez : its.toArray.size = its.length := by rw [List.size_toArray]
  refine ⟨by omega, fun i v hv => ?_⟩
  rw [List.getElem?_toArray] at hv
  have hi : i < ts.length := by
    have := (List.getElem?_eq_some_iff.mp hv).1
    omega
  obtain ⟨u, hu, ru⟩ := r.get (i := i) (x := V.str ts[i]) (by rw [List.getElem?_map, List.getElem?_eq_getElem hi]; rfl)
  rw [hv] at hu
  cases hu
  obtain ⟨t, rfl⟩ := ru
  exact ⟨ts[i], t, List.getElem?_eq_getElem hi, rfl⟩
def tLenSetS (K : PySem.W.Frag) (ta : TE) : TE := fun σ H Q => ta σ H fun x H1 => ∃ l ts, x = V.ref l ∧ (SqL K H1 l (ts.map V.str) ∨ SqT K H1 l (ts.map V.str)) ∧ ts.length ≤ 4000 ∧ Q (V.int ((metS ts).length : Nat)) H1
theorem pe_lenSetS {X : Cx} {K : PySem.W.Frag} {x : Expr} {tx : TE} {p1 p2 p3 p4 : Pos} (hK : X.K = K) (g1 : Gl X "len") (m1 : X.mg "len" = none) (g2 : Gl X "set") (m2 : X.mg "set" = none) (hx : PE X x tx)
    (hc : X.calm = true := by rfl) (ns1 : starEach [x] X.env = (false, eval x X.env) :: starEach [] X.env := by rfl) : PE X (.Call (.Name "len" p1) [.Call (.Name "set" p2) [x] [] p3] [] p4) (tLenSetS K tx) := by
  subst hK
  constructor
  intro pins s σ H Q I h
  apply Call_ (ld_blt I g1 m1 boot_len _)
  apply callWith_builtin1 (args_cons _ rfl) rfl rfl
  apply Call_ (ld_blt I g2 m2 boot_set _)
  refine callWith_type1 (args_cons (thn (hx.run pins s σ H _ I h) fun u s1 hu => args_nil ?_) ns1) ns1 rfl
  obtain ⟨y, H1, I1, ry, l, ts, rfl, hs, hn, q⟩ := hu
  obtain rfl : u = .ref l := ry
  have fin : ∀ (h' : Heap) (tk : Nat), h'.SetOf (PySem.strKind X.prog X.w) s1.heap.objs.size (fun z => decide (z ∈ ts)) (metS ts).length → (∀ b o, b < s1.heap.objs.size → s1.heap.get? b = some o → h'.get? b = some o) →
      wpAny (model X.prog X.w) X.A (spliced (backTo p4 (starEach [] X.env))) (fun vs s₂ => wpAny (model X.prog X.w) X.A (call (.builtin "len") (Value.ref s1.heap.objs.size :: vs)) (EP X pins σ Q) X.xe s₂) X.xe { s1 with heap := h', toks := tk } := fun h' tk so keep => args_nil (by
    obtain ⟨ob, es, ep, tb, e1, e2, e3, _, _, _, e4, e5⟩ := so
    have J := I1.kept (t' := tk) (h' := h') fun b o e => keep b o (Heap.lt_size e) e
    have small := metS_len ts
    exact call_len_set e1 e2 e3 e4 (by rw [e5]; omega) ⟨.int ((metS ts).length : Nat), H1, J.tok _, ⟨_, by rw [e5]⟩, q⟩)
  rcases hs with hs | hs
  · obtain ⟨its, r, pl, _⟩ := I1.list hs
    obtain ⟨⟨cls, dd, dt, sl⟩, ho, hcl, nl, hd⟩ := pl.isList
    simp only at hcl hd
    subst hcl
    subst hd
    obtain ⟨z1, z2⟩ := strs_item r
    exact call_setT (it := { cls := .type "list_iterator", data := .fields #[.ref l, .int 0 0] }) (St := fun I i s => s.heap.IsListIter I l i ∧ s.heap.IsList l its.toArray) (I1.ok.hd hc) ho (by decide) PySem.F.sub_list_set PySem.F.sub_list_frozenset
      (fun A E Q s' g q => wpAny_pyIter_list ⟨_, g, rfl, _, rfl⟩ q) (fun A I hA ne => (Walks.list hA I l ne its.toArray).toS) (fun s' g => ⟨⟨_, Heap.get?_push_size _ rfl, rfl, rfl⟩, ⟨_, Heap.get?_push_of_some _ g, rfl, _, rfl⟩⟩) z1 z2 (by unfold scanBound; omega) fun h' tk so keep => fin h' tk so keep
  · obtain ⟨its, r, pl, _⟩ := I1.tuple hs
    obtain ⟨⟨cls, dd, dt, sl⟩, ho, hcl, nl, hd⟩ := pl
    simp only at hcl hd
    subst hcl
    subst hd
    obtain ⟨z1, z2⟩ := strs_item r
    exact call_setT (it := { cls := .type "tuple_iterator", data := .fields #[.ref l, .int 0 0] }) (St := fun I i s => s.heap.IsTupleIter I l i ∧ s.heap.IsTuple l its.toArray) (I1.ok.hd hc) ho (by decide) PySem.F.sub_tuple_set PySem.F.sub_tuple_frozenset
      (fun A E Q s' g q => wpAny_pyIter_tuple ⟨_, g, rfl, _, rfl⟩ q) (fun A I hA ne => (Walks.tuple hA I l ne its.toArray).toS) (fun s' g => ⟨⟨_, Heap.get?_push_size _ rfl, rfl, rfl⟩, ⟨_, Heap.get?_push_of_some _ g, rfl, _, rfl⟩⟩) z1 z2 (by unfold scanBound; omega) fun h' tk so keep => fin h' tk so keep
def dLenSetS (a : DE) : DE := fun δ M P => a δ M fun x M1 => ∃ ts : List Str, (isLs M1 x (ts.map D.str) ∨ x = .tup (ts.map D.str)) ∧ ts.length ≤ 4000 ∧ P (.int ((metS ts).length : Nat)) M1
instance pu_lenSetS {K : PySem.W.Frag} {ta : TE} {da : DE} [A : PuE ta da] : PuE (tLenSetS K ta) (dLenSetS da) := ⟨fun S M σ δ H P Q w e h k =>
  A.run S M σ δ H _ _ w e h fun d S1 M1 v H1 p1 t1 w1 h1 => by
    obtain ⟨ts, h2, hn, p1⟩ := p1
    rcases h2 with h2 | rfl
    · obtain ⟨a, us, rfl, ha, hs⟩ := ls_get w1 h1 h2
      have eu := hs.strs_eq
      subst eu
      exact ⟨a, ts, rfl, .inl (SqL.of ha), hn, k _ S1 M1 _ H1 p1 t1 w1 (.int _)⟩
    · cases h1 with
      | tup n ha hs =>
        have eu := hs.strs_eq
        subst eu
        exact ⟨_, ts, rfl, .inr (SqT.of ha), hn, k _ S1 M1 _ H1 p1 t1 w1 (.int _)⟩⟩
theorem x_lenSetS {a : DE} {δ : Dl} {M : Mem} {P : QD} (h : a δ M fun x M1 => ∃ ts : List Str, (isLs M1 x (ts.map D.str) ∨ x = .tup (ts.map D.str)) ∧ ts.length ≤ 4000 ∧ P (.int ((metS ts).length : Nat)) M1) : dLenSetS a δ M P := h
theorem lc_run {J : It} {G : Mem → Prop} {g : TG} {t : TT} {ta : TE} {dg : DG} {dt : DT} {da : DE} {sl vs : List Nat} [A : PuG g dg sl] [sub : SubL sl vs] [T : PuT t dt] [B : PuE ta da] {S1 : Addr → Prop} {M1 : Mem} {H1 : Hp} {xs : List D} {σ : L2.St} {δ : Dl} {P : QD} {Q : VK}
    (wk : Walks J G S1 M1 H1 xs) (w1 : Wo S1 M1 H1) (e1 : En S1 H1 σ δ) (g1 : G M1) (hn : xs.length ≤ 16777216) (p1 : dGather G dg dt da vs δ P xs [] M1) (k : ∀ d S' M' v H', P d M' → Step S1 M1 H1 S' M' H' → Wo S' M' H' → Dt S' H' v d → Q v H') :
    tLc (fun _ H R => R J H) g t ta vs σ H1 Q := by
  intro D0 hD
  let Iv : Nat → Hp → Prop := fun i H' => ∃ S' M' acc ws, G M' ∧ dGather G dg dt da vs δ P (xs.drop i) acc M' ∧ Step S1 M1 H1 S' M' H' ∧ Wo S' M' H' ∧ En S' H' σ δ ∧ S' D0 ∧ M' D0 = none ∧ H' D0 = some (.lst ws) ∧ DtA S' H' ws acc ∧ acc.length ≤ i
  refine ⟨fun i m H' => i ≤ xs.length ∧ m = xs.length - i ∧ Iv i H', ⟨_, Nat.zero_le _, rfl, (fun a => S1 a ∨ a = D0), M1, [], [], g1, p1, .apart hD, w1.apart hD, e1.step w1 (.apart hD), .inr rfl, w1.fresh hD, upd_same, .nil, Nat.zero_le _⟩, ?_⟩
  rintro i m H2 ⟨hi, rfl, S2, M2, acc, ws, g2, p2, t2, w2, e2, sD, mD, hL, hA, hlen⟩
  by_cases hlt : i < xs.length
  · refine .inr ⟨wk.go i S2 M2 H2 hlt t2 w2 g2, Iv (i + 1), fun H' q => ⟨_, by omega, hlt, rfl, q⟩, ?_⟩
    intro x H3 y
    obtain ⟨same, d, hd, hx⟩ := wk.yld i S2 M2 H2 x H3 hlt t2 w2 g2 y
    rw [drop_cons hd] at p2
    have t3 : Step S2 M2 H2 S2 M2 H3 := .same same
    have w3 := w2.same same
    have e3 := e2.step w2 t3
    refine A.run S2 M2 _ _ H3 x d _ _ w3 (e3.wipe vs) hx p2 fun δ4 S4 M4 σ4 H4 p4 t4 w4 e4 o4 => ⟨by rw [o4 vs sub.h, wipe_wipe], ?_⟩
    refine T.run S4 M4 σ4 δ4 H4 _ _ w4 e4 p4 fun b S5 M5 H5 p5 t5 w5 => ?_
    have t25 := (t3.trans t4).trans t5
    obtain ⟨hL5, mD5, sD5⟩ := t25.keep _ _ mD hL
    have hA5 := dtA_step w2 t25 _ hA
    cases b with
    | true =>
      rw [if_pos rfl] at p5 ⊢
      refine B.run S5 M5 σ4 δ4 H5 _ _ w5 (e4.step w4 t5) p5 fun y S6 M6 v H6 p6 t6 w6 h6 => ?_
      obtain ⟨hL6, mD6, sD6⟩ := t6.keep _ _ mD5 hL5
      have hA6 := dtA_step w5 t6 _ hA5
      have sd : S6 D0 := sD6.mpr (sD5.mpr sD)
      have ex : Ext S6 H6 (upd H6 D0 (.lst (ws ++ [v]))) := Ext.mut (Ext.refl _) sd
      refine ⟨ws, hL6, by rw [hA.length]; exact Nat.lt_of_le_of_lt hlen (Nat.lt_of_lt_of_le hlt (by rw [sizeLine_eq]; exact hn)), S6, M6, acc ++ [y], ws ++ [v], p6.1, p6.2, ?_, ?_, ?_, sd, mD6, upd_same, (hA6.snoc h6).go ex, by rw [List.length_append, List.length_singleton]; omega⟩
      · have t16 := (t2.trans t25).trans t6
        refine ⟨fun b o n hb => ?_⟩
        obtain ⟨q1, q2, q3⟩ := t16.keep b o n hb
        exact ⟨(upd_ne (ne_of_none hb hD)).trans q1, q2, q3⟩
      · refine ⟨fun a s => ?_, fun a mo q => ?_⟩
        · by_cases c : a = D0
          · rw [c, upd_same]; exact fun z => nomatch z
          · rw [upd_ne c]; exact w6.tr a s
        · obtain ⟨s, q2⟩ := w6.mem a mo q
          have c : a ≠ D0 := by rintro rfl; rw [mD6] at q; cases q
          exact ⟨s, held_ext ex (fun u hu => (upd_ne c).trans hu) q2⟩
      · have e6 : En S6 H6 σ δ := e3.step w3 ((t4.trans t5).trans t6)
        exact ⟨e6.len, fun i d h => by
          obtain ⟨v, h1, h2⟩ := e6.at_ i d h
          exact ⟨v, h1, h2.go ex⟩⟩
    | false =>
      rw [if_neg Bool.false_ne_true] at p5 ⊢
      exact ⟨S5, M5, acc, ws, p5.1, p5.2, t2.trans t25, w5, e2.step w2 t25, sD5.mpr sD, mD5, hL5, hA5, by omega⟩
  · have ei : i = xs.length := by omega
    subst ei
    rw [List.drop_length] at p2
    refine .inl ⟨wk.stop S2 M2 H2 t2 w2 g2, k _ (fun a => S2 a ∧ a ≠ D0) M2 _ H2 p2 ⟨fun b o n hb => ?_⟩ ⟨fun a s => w2.tr a s.1, fun a mo q => ?_⟩ (.lst (fun z => z.2 rfl) hL (dtA_freeze hA))⟩
    · obtain ⟨q1, q2, q3⟩ := t2.keep b o n hb
      have c := ne_of_none hb hD
      exact ⟨q1, q2, ⟨fun z => q3.mp z.1, fun z => ⟨q3.mpr z, c⟩⟩⟩
    · obtain ⟨s, q2⟩ := w2.mem a mo q
      have c : a ≠ D0 := by rintro rfl; rw [mD] at q; cases q
      exact ⟨⟨s, c⟩, held_set (fun b n _ z => n z.1) q2⟩
theorem mdel_none {M : Mem} {p : Addr} : mdel M p p = none := if_pos rfl
theorem mdel_ne {M : Mem} {a p : Addr} (h : a ≠ p) : mdel M p a = M a := if_neg h
/-- [.. for x in d.values()] -/
def dLcV (a : DE) (g : DG) (t : DT) (e : DE) (vs : List Nat) : DE := fun δ M P => ∃ p kvs, M p = some (.dic kvs) ∧ a δ (mdel M p) fun x M1 => x = .ptr p ∧ kvs.length ≤ 16777216 ∧ dGather (fun _ => True) g t e vs δ (fun d M' => P d (mset M' p (.dic kvs))) (kvs.map (·.2)) [] M1
instance pu_lcV {td : TE} {g : TG} {t : TT} {ta : TE} {dd : DE} {dg : DG} {dt : DT} {da : DE} {sl vs : List Nat} [A : PuE td dd] [B : PuG g dg sl] [sub : SubL sl vs] [C : PuT t dt] [E : PuE ta da] : PuE (tLockE (tLc (iVals td) g t ta vs)) (dLcV dd dg dt da vs) := ⟨fun S M σ δ H P Q w e h k => by
  obtain ⟨p, kvs, hm, h⟩ := h
  obtain ⟨sp, ws, ha, hk, hs⟩ := w.mem p _ hm
  refine ⟨p, .dK ws, ha, trivial, fun od => ?_⟩
  have ex : Ext S H (upd H p (.frz od (.dK ws))) := Ext.mut (Ext.refl _) sp
  have w0 : Wo S (mdel M p) (upd H p (.frz od (.dK ws))) := ⟨fun a s => by
    by_cases c : a = p
    · rw [c, upd_same]; exact fun z => nomatch z
    · rw [upd_ne c]; exact w.tr a s, fun a mo q => by
    have c : a ≠ p := by rintro rfl; rw [mdel_none] at q; cases q
    rw [mdel_ne c] at q
    obtain ⟨s, q2⟩ := w.mem a mo q
    exact ⟨s, held_ext ex (fun u hu => (upd_ne c).trans hu) q2⟩⟩
  have e0 : En S (upd H p (.frz od (.dK ws))) σ δ := ⟨e.len, fun i d h => by
    obtain ⟨v, h1, h2⟩ := e.at_ i d h
    exact ⟨v, h1, h2.go ex⟩⟩
  refine A.run S _ σ δ _ _ _ w0 e0 h fun x S1 M1 v H1 p1 t1 w1 h1 => ?_
  obtain ⟨rfl, hn, p1⟩ := p1
  cases h1
  obtain ⟨f1, m1, s1⟩ := t1.keep p _ mdel_none upd_same
  refine ⟨p, od, ws, rfl, f1, ?_⟩
  have hs1 : DtA S1 H1 (ws.map (·.2)) (kvs.map (·.2)) := dtA_step w0 t1 _ (hs.go ex)
  have el : ws.length = kvs.length := len_held hk
  have wk : Walks (Itd p od ws) (fun _ => True) S1 M1 H1 (kvs.map (·.2)) :=
    ⟨fun S' M' H' t' w' _ => ⟨(t'.keep p _ m1 f1).1, by rw [List.length_map]; omega⟩, fun i S' M' H' hi t' w' _ => ⟨(t'.keep p _ m1 f1).1, by rw [List.length_map] at hi; omega⟩, fun i S' M' H' x H2 hi t' w' _ y => by
      obtain ⟨rfl, key, hy⟩ := y
      obtain ⟨d, e1, e2⟩ := (dtA_step w1 t' _ hs1).getV (i := i) (v := x) (by rw [List.getElem?_map, hy]; rfl)
      exact ⟨Same.refl _, d, e1, e2⟩⟩
  refine lc_run (Q := fun v H' => H' p = some (.frz od (.dK ws)) ∧ Q v (upd H' p (.dK ws))) (ta := ta) (t := t) (g := g) (vs := vs) (δ := δ) wk w1 (e0.step w0 t1) trivial (by rw [List.length_map]; exact hn) p1 fun d S' M' v H' q t' w' hv => ?_
  obtain ⟨f2, m2, s2⟩ := t'.keep p _ m1 f1
  have sp' : S' p := s2.mpr (s1.mpr sp)
  have ex' : Ext S' H' (upd H' p (.dK ws)) := Ext.mut (Ext.refl _) sp'
  refine ⟨f2, k d S' _ v _ q ⟨fun b o n hb => ?_⟩ ⟨fun a s => ?_, fun a mo q2 => ?_⟩ (hv.go ex')⟩
  · have c : b ≠ p := by rintro rfl; rw [hm] at n; cases n
    obtain ⟨q1, q2, q3⟩ := (t1.trans t').keep b o ((mdel_ne c).trans n) ((upd_ne c).trans hb)
    exact ⟨(upd_ne c).trans q1, (mset_ne c).trans q2, q3⟩
  · by_cases c : a = p
    · rw [c, upd_same]; exact fun z => nomatch z
    · rw [upd_ne c]; exact w'.tr a s
  · by_cases c : a = p
    · subst c
      rw [mset_same] at q2
      cases q2
      exact ⟨sp', ws, upd_same, hk, (dtA_step w1 t' _ hs1).go ex'⟩
    · rw [mset_ne c] at q2
      obtain ⟨s, q3⟩ := w'.mem a mo q2
      exact ⟨s, held_ext ex' (fun u hu => (upd_ne c).trans hu) q3⟩⟩
end V
namespace V
open PySem PySem.Spec PyProof.Rows L2 U StX
/-- different texts are told apart exactly if there are as many shown as there are -/
theorem tells_iff (ts : List Str) (f : Str → Str) : (metS ts).length = (metS (ts.map f)).length ↔ ∀ a ∈ ts, ∀ b ∈ ts, f a = f b → a = b := by
  have sub : ∀ x ∈ metS (ts.map f), x ∈ (metS ts).map f := fun x hx => by
    obtain ⟨t, ht, rfl⟩ := List.mem_map.mp ((metS_mem _).mp hx)
    exact List.mem_map.mpr ⟨t, (metS_mem _).mpr ht, rfl⟩
  have le : (metS (ts.map f)).length ≤ (metS ts).length := by
    have := nodup_lenI _ _ (metS_nodup _) sub
    rwa [List.length_map] at this
  constructor
  · intro e a ha b hb hab
    apply Classical.byContradiction
    intro ne
    have hb' : b ∈ metS ts := (metS_mem _).mpr hb
    have hsub : ∀ x ∈ metS (ts.map f), x ∈ ((metS ts).erase b).map f := fun x hx => by
      obtain ⟨t, ht, rfl⟩ := List.mem_map.mp (sub x hx)
      by_cases c : t = b
      · subst c
        rw [← hab]
        exact List.mem_map.mpr ⟨a, (List.mem_erase_of_ne ne).mpr ((metS_mem _).mpr ha), rfl⟩
      · exact List.mem_map.mpr ⟨t, (List.mem_erase_of_ne c).mpr ht, rfl⟩
    have := nodup_lenI _ _ (metS_nodup _) hsub
    rw [List.length_map, List.length_erase_of_mem hb'] at this
    have := List.length_pos_of_mem hb'
    omega
  · intro inj
    have nd : ((metS ts).map f).Nodup := by
      rw [List.Nodup, List.pairwise_map]
      exact (metS_nodup ts).imp_of_mem fun {a b} ha hb ne e => ne (inj a ((metS_mem _).mp ha) b ((metS_mem _).mp hb) e)
    have := nodup_lenI _ _ nd fun x hx => by
      obtain ⟨t, ht, rfl⟩ := List.mem_map.mp hx
      exact (metS_mem _).mpr (List.mem_map.mpr ⟨t, (metS_mem _).mp ht, rfl⟩)
    rw [List.length_map] at this
    omega
end V
namespace V
open PySem PySem.Spec PyProof.Rows L2 U StX
section
variable {X : Cx} {pins : List (Addr × Obj)} {σ : L2.St} {H : Hp} {s : Shared} {n : Nat} {f : Addr} {fd : FuncData} {ps : List Str} {sp : Sp} {a C : Addr} {y : V} {v : Value} {Q : VK}
/-- what the other thing may be -/
inductive Oth (C : Addr) (H : Hp) : V → Value → Prop
  | non : Oth C H .non (.type "NoneType")
  | str (x : Str) : Oth C H (.str x) (.type "str")
  | tup {b : Addr} {xs : List V} : H b = some (.tup xs) → Oth C H (.ref b) (.type "tuple")
  | ins {b dx : Addr} {fs : List (Str × V)} : H b = some (.ins C dx fs) → Oth C H (.ref b) (.ref C)
/-- x == y, x an instance with an __eq__ of its own -/
def rEqOwn (C : Addr) (sp : Sp) : R2 := fun x y H Q => ∃ a dx fs tb, x = V.ref a ∧ H a = some (.ins C dx fs) ∧ Oth C H y tb ∧ sp [.ref a, y] H (fun v H' => ∃ t, v = V.bl t ∧ Q (.bl t) H') L2.E0
/-- None in xs, each of xs an instance that is not equal to None -/
def rInOwn (C : Addr) (sp : Sp) : R2 := fun x y H Q => ∃ l xs, x = V.non ∧ y = V.ref l ∧ ∃ W : Nat → Hp → Prop, W 0 H ∧ ∀ i H', W i H' → H' l = some (.lst xs) ∧ (xs.length ≤ i → Q (.bl false) H') ∧
  ∀ z, xs[i]? = some z → ∃ a dx fs, z = V.ref a ∧ H' a = some (.ins C dx fs) ∧ sp [.ref a, .non] H' (fun v H2 => ∃ t, v = V.bl t ∧ (V.bl t = V.bl false ∧ W (i + 1) H2)) L2.E0
end
def rEqOwnD (C : Addr) (sp : DC) : DR := fun x y M P => ∃ n1 x1, x = .ins C n1 x1 ∧ (y = .non ∨ (∃ z, y = .str z) ∨ (∃ ys, y = .tup ys) ∨ ∃ n2 x2, y = .ins C n2 x2) ∧ sp [x, y] M fun d M' => ∃ t, d = .bl t ∧ P (.bl t) M'
instance op_eqOwnD {C : Addr} {sp : DC} : OpD (rEqOwn C (lift sp)) (rEqOwnD C sp) := ⟨fun S M H x y dx dy P Q w hx hy h k => by
  obtain ⟨n1, x1, rfl, hyk, h⟩ := h
  have gx := hx
  have gy := hy
  have fin : ∀ {a : Addr}, Dt S H (.ref a) (.ins C n1 x1) → lift sp [.ref a, y] H (fun v H' => ∃ t, v = V.bl t ∧ Q (.bl t) H') L2.E0 := fun {a} ha => ⟨S, M, _, _, w, .cons ha (.cons gy .nil), h, fun d S' M' v H' p t w' hv => by
    obtain ⟨b, rfl, p⟩ := p
    cases hv
    exact ⟨b, rfl, k _ S' M' _ H' p t w' (.bl _)⟩⟩
  cases hx with
  | ins _ ha _ _ =>
    rcases hyk with rfl | ⟨z, rfl⟩ | ⟨ys, rfl⟩ | ⟨n2, x2, rfl⟩
    · cases hy
      exact ⟨_, _, _, _, rfl, ha, .non, fin gx⟩
    · cases hy
      exact ⟨_, _, _, _, rfl, ha, .str z, fin gx⟩
    · cases hy with
      | tup _ hb _ => exact ⟨_, _, _, _, rfl, ha, .tup hb, fin gx⟩
    · cases hy with
      | ins _ hb _ _ => exact ⟨_, _, _, _, rfl, ha, .ins hb, fin gx⟩⟩
/-- each is asked whether it is None, and says no -/
def dAskAll (C : Addr) (sp : DC) (P : QD) : List D → Mem → Prop
  | [], M => P (.bl false) M
  | d :: ds, M => (∃ n x, d = .ins C n x) ∧ sp [d, .non] M fun v M' => v = .bl false ∧ dAskAll C sp P ds M'
def rInOwnD (C : Addr) (sp : DC) : DR := fun x y M P => ∃ ds, x = .non ∧ y = .lst ds ∧ dAskAll C sp P ds M
instance op_inOwnD {C : Addr} {sp : DC} : OpD (rInOwn C (lift sp)) (rInOwnD C sp) := ⟨fun S M H x y dx dy P Q w hx hy h k => by
  obtain ⟨ds, rfl, rfl, h⟩ := h
  cases hx
  cases hy with
  | @lst l xs _ hn ha hs =>
    refine ⟨l, xs, rfl, rfl, fun i H' => ∃ S' M', Step S M H S' M' H' ∧ Wo S' M' H' ∧ dAskAll C sp P (ds.drop i) M', ⟨S, M, .refl, w, h⟩, ?_⟩
    rintro i H' ⟨S', M', t, w', q⟩
    have hl := dt_step w t _ (Dt.lst hn ha hs)
    cases hl with
    | lst hn' ha' hs' =>
      obtain ⟨e1, _, _⟩ := t.keep _ _ (w.mn hn) ha
      rw [ha'] at e1
      cases e1
      have el := hs'.length
      refine ⟨ha', fun c => ?_, fun z hz => ?_⟩
      · rw [List.drop_of_length_le (by omega)] at q
        exact k _ S' M' _ H' q t w' (.bl _)
      · obtain ⟨d, hd, hv⟩ := hs'.getV hz
        rw [drop_cons hd] at q
        obtain ⟨⟨n1, x1, rfl⟩, q⟩ := q
        have gv := hv
        cases hv with
        | ins _ hb _ _ =>
          refine ⟨_, _, _, rfl, hb, S', M', _, _, w', .cons gv (.cons .non .nil), q, fun d' S2 M2 v H2 p t2 w2 hv2 => ?_⟩
          obtain ⟨rfl, p⟩ := p
          cases hv2
          exact ⟨false, rfl, rfl, S2, M2, t.trans t2, w2, p⟩⟩
def tKGet (l : List (Str × Int)) (te : TE) : TE := fun σ H Q => te σ H fun y H1 => ∃ p ∈ l, y = .str p.1 ∧ Q (.int p.2) H1
def dKGet (l : List (Str × Int)) (e : DE) : DE := fun δ M P => e δ M fun y M1 => ∃ p ∈ l, y = .str p.1 ∧ P (.int p.2) M1
instance pu_kget {l : List (Str × Int)} {te : TE} {de : DE} [A : PuE te de] : PuE (tKGet l te) (dKGet l de) := ⟨fun S M σ δ H P Q w e h k =>
  A.run S M σ δ H _ _ w e h fun x S1 M1 v1 H1 p1 t1 w1 h1 => by
    obtain ⟨p, hp, rfl, p1⟩ := p1
    cases h1
    exact ⟨p, hp, rfl, k _ S1 M1 _ H1 p1 t1 w1 (.int _)⟩⟩
end V
namespace V
open PySem PySem.Spec PyProof.Rows L2 U StX
def rRepM : R2 := rRep
def rRepM1 : DR := fun x y M P => ∃ xs k, isLs M x xs ∧ y = .int k ∧ -(2 ^ 63) ≤ k ∧ k < 2 ^ 63 ∧ xs.length * k.toNat ≤ sizeLine ∧ ∀ a, M a = none → P (.ptr a) (mset M a (.lst (List.replicate k.toNat xs).flatten))
instance op_repM1 : OpD rRepM rRepM1 := ⟨fun S M H x y dx dy P Q w hx hy h k => by
  obtain ⟨xs, i, hl, rfl, h1, h2, h3, h⟩ := h
  obtain ⟨a, vs, rfl, ha, hs⟩ := ls_get w hx hl
  cases hy
  refine ⟨a, i, vs, rfl, rfl, ha, h1, h2, by rw [hs.length]; exact h3, fun p hp => ?_⟩
  have hs2 := (dtA_rep hs i.toNat).sm (Same.new (o := .lst (List.replicate i.toNat vs).flatten) hp)
  have hs3 : DtA (fun a => S a ∨ a = p) (upd H p (.lst (List.replicate i.toNat vs).flatten)) (List.replicate i.toNat vs).flatten (List.replicate i.toNat xs).flatten := by
    have := DtA.set (S := S) (S' := fun a => S a ∨ a = p) (fun b n k z => z.elim n fun q => k (by rw [q]; exact hp)) _ (dtA_rep hs i.toNat)
    exact this.sm (Same.new hp)
  exact k (.ptr p) _ _ (.ref p) _ (h p (w.fresh hp)) (.mutable w hp) (w.mutable hp ⟨_, upd_same, hs3⟩) (.ptr p)⟩
end V
namespace V
open PySem PySem.Spec PyProof.Rows L2 U StX
section
variable {X : Cx} {pins : List (Addr × Obj)} {σ : L2.St} {H : Hp} {s : Shared}
def rInDT : R2 := fun y x H Q => ∃ a kvs, x = V.ref a ∧ H a = some (.dT kvs) ∧ ((∃ z, y = V.str z ∧ Q (.bl false) H) ∨ ∃ b k, y = V.ref b ∧ H b = some (.tup (k.map kV)) ∧ Q (.bl (valV kvs k).isSome) H)
end
def valT (kvs : List (List Key × D)) (k : List Key) : Option D := (kvs.find? fun kv => decide (kv.1 = k)).map (·.2)
theorem valT_pos {p : List Key × D} {r : List (List Key × D)} {k : List Key} (e : p.1 = k) : valT (p :: r) k = some p.2 := by simp [valT, List.find?_cons, e]
theorem valT_neg {p : List Key × D} {r : List (List Key × D)} {k : List Key} (e : ¬ p.1 = k) : valT (p :: r) k = valT r k := by simp [valT, List.find?_cons, e]
section
variable {S : Addr → Prop} {M : Mem} {H : Hp}
theorem dtA_kk : ∀ {ks : List Key} {vs : List V}, DtA S H vs (ks.map kD) → vs = ks.map kV
  | [], _, .nil => rfl
  | _ :: _, _, .cons h t => by rw [dt_kD h, dtA_kk t]; rfl
theorem valT_held : ∀ {ws : List (List Key × V)} {kvs : List (List Key × D)}, ws.map (·.1) = kvs.map (·.1) → DtA S H (ws.map (·.2)) (kvs.map (·.2)) → ∀ k, (valT kvs k = none ∧ valV ws k = none) ∨ ∃ d v, valT kvs k = some d ∧ valV ws k = some v ∧ Dt S H v d
  | [], [], _, _, k => .inl ⟨rfl, rfl⟩
  | [], _ :: _, h, _, _ => by simp at h
  | _ :: _, [], h, _, _ => by simp at h
  | (a, v) :: ws, (b, d) :: kvs, hk, hs, k => by
    simp only [List.map_cons, List.cons.injEq] at hk
    obtain ⟨rfl, hk⟩ := hk
    cases hs with
    | cons h1 h2 =>
      by_cases c : a = k
      · exact .inr ⟨d, v, valT_pos c, valV_pos c, h1⟩
      · rw [valT_neg (p := (a, d)) c, valV_neg (p := (a, v)) c]
        exact valT_held hk h2 k
theorem lenT_held {ws : List (List Key × V)} {kvs : List (List Key × D)} (hk : ws.map (·.1) = kvs.map (·.1)) : ws.length = kvs.length := by
  have := congrArg List.length hk
  rwa [List.length_map, List.length_map] at this
end
def dDNewT : DE := fun δ M P => ∀ a, M a = none → P (.ptr a) (mset M a (.dct []))
instance pu_dnewT : PuE tDNewT dDNewT := ⟨fun S M σ δ H P Q w e h k p hp =>
  k (.ptr p) _ _ (.ref p) _ (h p (w.fresh hp)) (.mutable w hp) (w.mutable hp ⟨[], upd_same, rfl, .nil⟩) (.ptr p)⟩
def rInDT1 : DR := fun y x M P => ∃ p kvs, x = .ptr p ∧ M p = some (.dct kvs) ∧ ((∃ z, y = .str z ∧ P (.bl false) M) ∨ ∃ ks : List Key, y = .tup (ks.map kD) ∧ P (.bl (valT kvs ks).isSome) M)
instance op_inDT1 : OpD rInDT rInDT1 := ⟨fun S M H y x dy dx P Q w hy hx h k => by
  obtain ⟨p, kvs, rfl, hm, h⟩ := h
  cases hx
  obtain ⟨_, ws, ha, hk, hs⟩ := w.mem p _ hm
  rcases h with ⟨z, rfl, q⟩ | ⟨ks, rfl, q⟩
  · cases hy
    exact ⟨p, ws, rfl, ha, .inl ⟨z, rfl, k _ S M _ H q .refl w (.bl _)⟩⟩
  · cases hy with
    | tup n hb hv =>
      rw [dtA_kk hv] at hb
      refine ⟨p, ws, rfl, ha, .inr ⟨_, ks, rfl, hb, ?_⟩⟩
      rcases valT_held hk hs ks with ⟨e1, e2⟩ | ⟨d, v, e1, e2, e3⟩
      · rw [e2]
        rw [e1] at q
        exact k _ S M _ H q .refl w (.bl _)
      · rw [e2]
        rw [e1] at q
        exact k _ S M _ H q .refl w (.bl _)⟩
/-- d[k], the key a tuple -/
def tDGetT (td ty : TE) : TE := tDGet td ty
def dDIxT (a b : DE) : DE := fun δ M P => a δ M fun x M1 => b δ M1 fun y M2 => ∃ p kvs, ∃ ks : List Key, ∃ d, x = .ptr p ∧ M2 p = some (.dct kvs) ∧ y = .tup (ks.map kD) ∧ valT kvs ks = some d ∧ P d M2
instance pu_dixT {ta tb : TE} {da db : DE} [A : PuE ta da] [B : PuE tb db] : PuE (tDGetT ta tb) (dDIxT da db) := ⟨fun S M σ δ H P Q w e h k =>
  A.run S M σ δ H _ _ w e h fun x S1 M1 v1 H1 p1 t1 w1 h1 => B.run S1 M1 σ δ H1 _ _ w1 (e.step w t1) p1 fun y S2 M2 v2 H2 p2 t2 w2 h2 => by
    obtain ⟨p, kvs, ks, d, rfl, hm, rfl, hv, p2⟩ := p2
    cases h1
    obtain ⟨_, ws, ha, hk, hs⟩ := w2.mem p _ hm
    cases h2 with
    | tup n hb hvs =>
      rw [dtA_kk hvs] at hb
      rcases valT_held hk hs ks with ⟨e1, e2⟩ | ⟨d', v, e1, e2, e3⟩
      · rw [hv] at e1; cases e1
      · rw [hv] at e1; cases e1
        exact ⟨p, v, rfl, e2 ▸ DGet.t ha hb, k _ _ _ _ _ p2 (t1.trans t2) w2 e3⟩⟩
/-- d[k] = v, the key a tuple that is new -/
def sDPutT (td ty tv : TE) : TS := sDPut td ty tv
def sDPutTD (a b c : DE) : DS := fun nx rt bk ct δ M => c δ M fun z M1 => a δ M1 fun x M2 => b δ M2 fun y M3 => ∃ p kvs, ∃ ks : List Key, x = .ptr p ∧ M3 p = some (.dct kvs) ∧ y = .tup (ks.map kD) ∧ valT kvs ks = none ∧ kvs.length < sizeLine ∧ nx δ (mset M3 p (.dct (kvs ++ [(ks, z)])))
instance pu_dputT {ta tb tc : TE} {da db dc : DE} [A : PuE ta da] [B : PuE tb db] [C : PuE tc dc] : PuS (sDPutT ta tb tc) (sDPutTD da db dc) := ⟨fun S M σ δ H nx rt bk ct E w e h l =>
  C.run S M σ δ H _ _ w e h fun z S1 M1 v1 H1 p1 t1 w1 h1 => A.run S1 M1 σ δ H1 _ _ w1 (e.step w t1) p1 fun x S2 M2 v2 H2 p2 t2 w2 h2 =>
    B.run S2 M2 σ δ H2 _ _ w2 (e.step w (t1.trans t2)) p2 fun y S3 M3 v3 H3 p3 t3 w3 h3 => by
      obtain ⟨p, kvs, ks, rfl, hm, rfl, hn, hl, q⟩ := p3
      cases h2
      obtain ⟨sp, ws, ha, hk, hs⟩ := w3.mem p _ hm
      have t123 := (t1.trans t2).trans t3
      have hv := dt_step w1 (t2.trans t3) _ h1
      cases h3 with
      | tup n hb hvs =>
        rw [dtA_kk hvs] at hb
        rcases valT_held hk hs ks with ⟨e1, e2⟩ | ⟨d', v, e1, e2, e3⟩
        · have ep : putK ws ks v1 = ws ++ [(ks, v1)] := by
            unfold putK
            rw [valV_any, e2]
            rfl
          have ex : Ext S3 H3 (upd H3 p (.dT (putK ws ks v1))) := Ext.mut (Ext.refl _) sp
          have t4 : Step S M H S3 (mset M3 p (.dct (kvs ++ [(ks, z)]))) (upd H3 p (.dT (putK ws ks v1))) := t123.trans (.change hm)
          refine ⟨p, _, rfl, DPut.t ha hb (by rw [lenT_held hk]; exact hl), l.nx _ _ _ _ _ q t4 (w3.change hm ⟨_, upd_same, ?_, ?_⟩) (e.step w t4)⟩
          · rw [ep, List.map_append, List.map_append, hk]
            rfl
          · rw [ep, List.map_append, List.map_append]
            exact ((hs.go (ep ▸ ex)).snoc (hv.go (ep ▸ ex)))
        · rw [hn] at e1; cases e1⟩
end V
namespace G
open PySem PySem.Spec PyProof.Rows L2 U V
def top (i : Nat) : Stmt := PySem.Challenge.pw_shownshort_k28_whole_widths_that_tell_ap.main.body.getD i (.Pass ⟨0, 0, 0, 0⟩)
abbrev s_is_integer : Stmt := top 12
abbrev lv_is_integer : Nat := 1
abbrev n_is_integer : List Str := ["value"]
abbrev p_is_integer : List Str := ["value"]
theorem sc_is_integer : FnScope n_is_integer p_is_integer (L2.defScope s_is_integer) := ⟨rfl, rfl, rfl, by decide +kernel, rfl, by decide +kernel, by decide +kernel⟩
abbrev s_is_text : Stmt := top 13
abbrev lv_is_text : Nat := 1
abbrev n_is_text : List Str := ["value", "most", "sign"]
abbrev p_is_text : List Str := ["value", "most"]
theorem sc_is_text : FnScope n_is_text p_is_text (L2.defScope s_is_text) := ⟨rfl, rfl, rfl, by decide +kernel, rfl, by decide +kernel, by decide +kernel⟩
abbrev s_check_number : Stmt := top 15
abbrev lv_check_number : Nat := 3
abbrev n_check_number : List Str := ["value"]
abbrev p_check_number : List Str := ["value"]
theorem sc_check_number : FnScope n_check_number p_check_number (L2.defScope s_check_number) := ⟨rfl, rfl, rfl, by decide +kernel, rfl, by decide +kernel, by decide +kernel⟩
abbrev s_Shortener___init__ : Stmt := inClass (top 16) 0
abbrev lv_Shortener___init__ : Nat := 4
abbrev n_Shortener___init__ : List Str := ["self", "limit", "head", "tail", "mark"]
abbrev p_Shortener___init__ : List Str := ["self", "limit", "head", "tail", "mark"]
theorem sc_Shortener___init__ : FnScope n_Shortener___init__ p_Shortener___init__ (L2.defScope s_Shortener___init__) := ⟨rfl, rfl, rfl, by decide +kernel, rfl, by decide +kernel, by decide +kernel⟩
abbrev s_Shortener_cut : Stmt := inClass (top 16) 1
abbrev lv_Shortener_cut : Nat := 1
abbrev n_Shortener_cut : List Str := ["self", "signs"]
abbrev p_Shortener_cut : List Str := ["self", "signs"]
theorem sc_Shortener_cut : FnScope n_Shortener_cut p_Shortener_cut (L2.defScope s_Shortener_cut) := ⟨rfl, rfl, rfl, by decide +kernel, rfl, by decide +kernel, by decide +kernel⟩
abbrev s_Shortener___eq__ : Stmt := inClass (top 16) 2
abbrev p_Shortener___eq__ : List Str := ["self", "other"]
abbrev s_Shortener___repr__ : Stmt := inClass (top 16) 3
abbrev p_Shortener___repr__ : List Str := ["self"]
abbrev s_cut_by : Stmt := top 17
abbrev lv_cut_by : Nat := 2
abbrev n_cut_by : List Str := ["row", "signs", "shortener"]
abbrev p_cut_by : List Str := ["row", "signs"]
theorem sc_cut_by : FnScope n_cut_by p_cut_by (L2.defScope s_cut_by) := ⟨rfl, rfl, rfl, by decide +kernel, rfl, by decide +kernel, by decide +kernel⟩
abbrev s_check_kind : Stmt := top 20
abbrev lv_check_kind : Nat := 3
abbrev n_check_kind : List Str := ["value"]
abbrev p_check_kind : List Str := ["value"]
theorem sc_check_kind : FnScope n_check_kind p_check_kind (L2.defScope s_check_kind) := ⟨rfl, rfl, rfl, by decide +kernel, rfl, by decide +kernel, by decide +kernel⟩
abbrev s_check_mark : Stmt := top 21
abbrev lv_check_mark : Nat := 3
abbrev n_check_mark : List Str := ["value"]
abbrev p_check_mark : List Str := ["value"]
theorem sc_check_mark : FnScope n_check_mark p_check_mark (L2.defScope s_check_mark) := ⟨rfl, rfl, rfl, by decide +kernel, rfl, by decide +kernel, by decide +kernel⟩
abbrev s_check_list : Stmt := top 22
abbrev lv_check_list : Nat := 3
abbrev n_check_list : List Str := ["value", "test", "index", "element"]
abbrev p_check_list : List Str := ["value", "test"]
theorem sc_check_list : FnScope n_check_list p_check_list (L2.defScope s_check_list) := ⟨rfl, rfl, rfl, by decide +kernel, rfl, by decide +kernel, by decide +kernel⟩
abbrev s_is_listed : Stmt := top 23
abbrev lv_is_listed : Nat := 2
abbrev n_is_listed : List Str := ["value"]
abbrev p_is_listed : List Str := ["value"]
theorem sc_is_listed : FnScope n_is_listed p_is_listed (L2.defScope s_is_listed) := ⟨rfl, rfl, rfl, by decide +kernel, rfl, by decide +kernel, by decide +kernel⟩
abbrev s_member_of : Stmt := top 24
abbrev lv_member_of : Nat := 6
abbrev n_member_of : List Str := ["kind", "mark", "width", "rest"]
abbrev p_member_of : List Str := ["kind", "mark", "width"]
theorem sc_member_of : FnScope n_member_of p_member_of (L2.defScope s_member_of) := ⟨rfl, rfl, rfl, by decide +kernel, rfl, by decide +kernel, by decide +kernel⟩
abbrev s_seen_by : Stmt := top 25
abbrev lv_seen_by : Nat := 3
abbrev n_seen_by : List Str := ["row", "text"]
abbrev p_seen_by : List Str := ["row", "text"]
theorem sc_seen_by : FnScope n_seen_by p_seen_by (L2.defScope s_seen_by) := ⟨rfl, rfl, rfl, by decide +kernel, rfl, by decide +kernel, by decide +kernel⟩
abbrev s_is_told : Stmt := top 26
abbrev lv_is_told : Nat := 4
abbrev n_is_told : List Str := ["row", "texts", "text"]
abbrev p_is_told : List Str := ["row", "texts"]
theorem sc_is_told : FnScope n_is_told p_is_told (L2.defScope s_is_told) := ⟨rfl, rfl, rfl, by decide +kernel, rfl, by decide +kernel, by decide +kernel⟩
abbrev s_widths : Stmt := top 27
abbrev lv_widths : Nat := 7
abbrev n_widths : List Str := ["kind", "mark", "texts", "every", "width"]
abbrev p_widths : List Str := ["kind", "mark", "texts"]
theorem sc_widths : FnScope n_widths p_widths (L2.defScope s_widths) := ⟨rfl, rfl, rfl, by decide +kernel, rfl, by decide +kernel, by decide +kernel⟩
abbrev s_narrowest : Stmt := top 28
abbrev lv_narrowest : Nat := 8
abbrev n_narrowest : List Str := ["kind", "mark", "texts", "found"]
abbrev p_narrowest : List Str := ["kind", "mark", "texts"]
theorem sc_narrowest : FnScope n_narrowest p_narrowest (L2.defScope s_narrowest) := ⟨rfl, rfl, rfl, by decide +kernel, rfl, by decide +kernel, by decide +kernel⟩
abbrev s__law_pot : Stmt := top 30
abbrev lv__law_pot : Nat := 1
abbrev n__law_pot : List Str := ["_law_script", "_law_k", "_law_own", "_law_mixed", "_law_entry"]
abbrev p__law_pot : List Str := ["_law_script", "_law_k"]
theorem sc__law_pot : FnScope n__law_pot p__law_pot (L2.defScope s__law_pot) := ⟨rfl, rfl, rfl, by decide +kernel, rfl, by decide +kernel, by decide +kernel⟩
abbrev s__law_ladle : Stmt := top 31
abbrev lv__law_ladle : Nat := 1
abbrev n__law_ladle : List Str := ["_law_pot_here", "_law_many", "_law_digit"]
abbrev p__law_ladle : List Str := ["_law_pot_here", "_law_many"]
theorem sc__law_ladle : FnScope n__law_ladle p__law_ladle (L2.defScope s__law_ladle) := ⟨rfl, rfl, rfl, by decide +kernel, rfl, by decide +kernel, by decide +kernel⟩
abbrev s__law_one_of : Stmt := top 32
abbrev lv__law_one_of : Nat := 2
abbrev n__law_one_of : List Str := ["_law_pot_here", "_law_some"]
abbrev p__law_one_of : List Str := ["_law_pot_here", "_law_some"]
theorem sc__law_one_of : FnScope n__law_one_of p__law_one_of (L2.defScope s__law_one_of) := ⟨rfl, rfl, rfl, by decide +kernel, rfl, by decide +kernel, by decide +kernel⟩
abbrev s__law_cut : Stmt := top 33
abbrev lv__law_cut : Nat := 1
abbrev n__law_cut : List Str := ["_law_tolds", "_law_things", "_law_bound", "_law_low", "_law_high", "_law_sign", "_law_front", "_law_back", "_law_each"]
abbrev p__law_cut : List Str := ["_law_tolds", "_law_things"]
theorem sc__law_cut : FnScope n__law_cut p__law_cut (L2.defScope s__law_cut) := ⟨rfl, rfl, rfl, by decide +kernel, rfl, by decide +kernel, by decide +kernel⟩
abbrev s__law_seen : Stmt := top 34
abbrev lv__law_seen : Nat := 2
abbrev n__law_seen : List Str := ["_law_tolds", "_law_line_here", "_law_each"]
abbrev p__law_seen : List Str := ["_law_tolds", "_law_line_here"]
theorem sc__law_seen : FnScope n__law_seen p__law_seen (L2.defScope s__law_seen) := ⟨rfl, rfl, rfl, by decide +kernel, rfl, by decide +kernel, by decide +kernel⟩
abbrev s__law_line : Stmt := top 35
abbrev lv__law_line : Nat := 3
abbrev n__law_line : List Str := ["_law_pot_here", "_law_many", "_law_signs_here", "_law_k"]
abbrev p__law_line : List Str := ["_law_pot_here", "_law_many"]
theorem sc__law_line : FnScope n__law_line p__law_line (L2.defScope s__law_line) := ⟨rfl, rfl, rfl, by decide +kernel, rfl, by decide +kernel, by decide +kernel⟩
abbrev s__law_some_lines : Stmt := top 36
abbrev lv__law_some_lines : Nat := 4
abbrev n__law_some_lines : List Str := ["_law_pot_here", "_law_many", "_law_stem", "_law_found", "_law_k", "_law_way", "_law_at", "_law_line_here"]
abbrev p__law_some_lines : List Str := ["_law_pot_here", "_law_many"]
theorem sc__law_some_lines : FnScope n__law_some_lines p__law_some_lines (L2.defScope s__law_some_lines) := ⟨rfl, rfl, rfl, by decide +kernel, rfl, by decide +kernel, by decide +kernel⟩
abbrev s__law_family : Stmt := top 37
abbrev lv__law_family : Nat := 1
abbrev n__law_family : List Str := ["_law_sort", "_law_sign", "_law_size_here", "_law_rest"]
abbrev p__law_family : List Str := ["_law_sort", "_law_sign", "_law_size_here"]
theorem sc__law_family : FnScope n__law_family p__law_family (L2.defScope s__law_family) := ⟨rfl, rfl, rfl, by decide +kernel, rfl, by decide +kernel, by decide +kernel⟩
abbrev s__law_is_told : Stmt := top 38
abbrev lv__law_is_told : Nat := 3
abbrev n__law_is_told : List Str := ["_law_tolds", "_law_lines", "_law_seen_here", "_law_line_here"]
abbrev p__law_is_told : List Str := ["_law_tolds", "_law_lines"]
theorem sc__law_is_told : FnScope n__law_is_told p__law_is_told (L2.defScope s__law_is_told) := ⟨rfl, rfl, rfl, by decide +kernel, rfl, by decide +kernel, by decide +kernel⟩
abbrev s__law_right : Stmt := top 39
abbrev lv__law_right : Nat := 9
abbrev n__law_right : List Str := ["_law_pot_here", "_law_again", "_law_lines", "_law_sign", "_law_sort", "_law_due", "_law_size_here", "_law_first", "_law_found"]
abbrev p__law_right : List Str := ["_law_pot_here"]
theorem sc__law_right : FnScope n__law_right p__law_right (L2.defScope s__law_right) := ⟨rfl, rfl, rfl, by decide +kernel, rfl, by decide +kernel, by decide +kernel⟩
abbrev s_law : Stmt := top 40
abbrev lv_law : Nat := 10
abbrev n_law : List Str := ["_law_script", "_law_k"]
abbrev p_law : List Str := ["_law_script"]
theorem sc_law : FnScope n_law p_law (L2.defScope s_law) := ⟨rfl, rfl, rfl, by decide +kernel, rfl, by decide +kernel, by decide +kernel⟩
structure Tx (K : PySem.W.Frag) (mg : Str → Option Value) where
  n_abs : mg "abs" = none
  n_all : mg "all" = none
  n_bool : mg "bool" = none
  n_divmod : mg "divmod" = none
  n_enumerate : mg "enumerate" = none
  n_int : mg "int" = none
  n_isinstance : mg "isinstance" = none
  n_len : mg "len" = none
  n_list : mg "list" = none
  n_max : mg "max" = none
  n_min : mg "min" = none
  n_range : mg "range" = none
  n_repr : mg "repr" = none
  n_set : mg "set" = none
  n_str : mg "str" = none
  n_tuple : mg "tuple" = none
  k_MOST_SIGNS : ∃ u, mg "MOST_SIGNS" = some u ∧ RelV (.int 40) u
  k_MOST_MARK : ∃ u, mg "MOST_MARK" = some u ∧ RelV (.int 3) u
  k_MOST_TEXT : ∃ u, mg "MOST_TEXT" = some u ∧ RelV (.int 200) u
  k_MOST_SHELVED : ∃ u, mg "MOST_SHELVED" = some u ∧ RelV (.int 20) u
  k_SIGNS : ∃ u, mg "SIGNS" = some u ∧ RelV (.str (PySem.Str.ofString ".0123456789abcdefghijklmnopqrstuvwxyz~")) u
  a_KINDS : Addr
  m_KINDS : mg "KINDS" = some (.ref a_KINDS)
  q_KINDS : ∀ H : Hp, SqT K H a_KINDS [.str (PySem.Str.ofString "end"), .str (PySem.Str.ofString "start"), .str (PySem.Str.ofString "middle")]
  C_Shortener : Addr
  m_Shortener : mg "Shortener" = some (.ref C_Shortener)
  c_Shortener : Cls K C_Shortener
  i_Shortener : C8.InsC K C_Shortener
  na_Shortener_limit : NoAttr K C_Shortener "limit"
  na_Shortener_head : NoAttr K C_Shortener "head"
  na_Shortener_tail : NoAttr K C_Shortener "tail"
  na_Shortener_mark : NoAttr K C_Shortener "mark"
  na_Shortener_told : NoAttr K C_Shortener "told"
  ne_Shortener : PySem.W.findIn K (.ref C_Shortener) "__ne__" = some (some (.builtin "object.__ne__"))
  mo_Shortener : PySem.W.mroIn K C_Shortener (.type "object") = some true
  f_Shortener___init__ : Addr
  d_Shortener___init__ : FuncData
  F_Shortener___init__ : L2.Fun K "__init__" "Shortener.__init__" s_Shortener___init__ f_Shortener___init__ d_Shortener___init__
  b_Shortener___init__ : Binds K d_Shortener___init__ p_Shortener___init__ []
  M_Shortener : Mk K C_Shortener f_Shortener___init__
  f_Shortener_cut : Addr
  d_Shortener_cut : FuncData
  F_Shortener_cut : L2.Fun K "cut" "Shortener.cut" s_Shortener_cut f_Shortener_cut d_Shortener_cut
  b_Shortener_cut : Binds K d_Shortener_cut p_Shortener_cut []
  t_Shortener_cut : Meth K C_Shortener "cut" f_Shortener_cut
  f_Shortener___eq__ : Addr
  d_Shortener___eq__ : FuncData
  F_Shortener___eq__ : L2.Fun K "__eq__" "Shortener.__eq__" s_Shortener___eq__ f_Shortener___eq__ d_Shortener___eq__
  b_Shortener___eq__ : Binds K d_Shortener___eq__ p_Shortener___eq__ []
  t_Shortener___eq__ : Meth K C_Shortener "__eq__" f_Shortener___eq__
  f_Shortener___repr__ : Addr
  d_Shortener___repr__ : FuncData
  F_Shortener___repr__ : L2.Fun K "__repr__" "Shortener.__repr__" s_Shortener___repr__ f_Shortener___repr__ d_Shortener___repr__
  b_Shortener___repr__ : Binds K d_Shortener___repr__ p_Shortener___repr__ []
  t_Shortener___repr__ : Meth K C_Shortener "__repr__" f_Shortener___repr__
  f_is_integer : Addr
  d_is_integer : FuncData
  F_is_integer : L2.Fun K "is_integer" "is_integer" s_is_integer f_is_integer d_is_integer
  b_is_integer : Binds K d_is_integer p_is_integer []
  m_is_integer : mg "is_integer" = some (.ref f_is_integer)
  f_is_text : Addr
  d_is_text : FuncData
  F_is_text : L2.Fun K "is_text" "is_text" s_is_text f_is_text d_is_text
  b_is_text : Binds K d_is_text p_is_text []
  m_is_text : mg "is_text" = some (.ref f_is_text)
  f_check_number : Addr
  d_check_number : FuncData
  F_check_number : L2.Fun K "check_number" "check_number" s_check_number f_check_number d_check_number
  b_check_number : Binds K d_check_number p_check_number []
  m_check_number : mg "check_number" = some (.ref f_check_number)
  f_cut_by : Addr
  d_cut_by : FuncData
  F_cut_by : L2.Fun K "cut_by" "cut_by" s_cut_by f_cut_by d_cut_by
  b_cut_by : Binds K d_cut_by p_cut_by []
  m_cut_by : mg "cut_by" = some (.ref f_cut_by)
  f_check_kind : Addr
  d_check_kind : FuncData
  F_check_kind : L2.Fun K "check_kind" "check_kind" s_check_kind f_check_kind d_check_kind
  b_check_kind : Binds K d_check_kind p_check_kind []
  m_check_kind : mg "check_kind" = some (.ref f_check_kind)
  f_check_mark : Addr
  d_check_mark : FuncData
  F_check_mark : L2.Fun K "check_mark" "check_mark" s_check_mark f_check_mark d_check_mark
  b_check_mark : Binds K d_check_mark p_check_mark []
  m_check_mark : mg "check_mark" = some (.ref f_check_mark)
  f_check_list : Addr
  d_check_list : FuncData
  F_check_list : L2.Fun K "check_list" "check_list" s_check_list f_check_list d_check_list
  b_check_list : Binds K d_check_list p_check_list []
  m_check_list : mg "check_list" = some (.ref f_check_list)
  f_is_listed : Addr
  d_is_listed : FuncData
  F_is_listed : L2.Fun K "is_listed" "is_listed" s_is_listed f_is_listed d_is_listed
  b_is_listed : Binds K d_is_listed p_is_listed []
  m_is_listed : mg "is_listed" = some (.ref f_is_listed)
  f_member_of : Addr
  d_member_of : FuncData
  F_member_of : L2.Fun K "member_of" "member_of" s_member_of f_member_of d_member_of
  b_member_of : Binds K d_member_of p_member_of []
  m_member_of : mg "member_of" = some (.ref f_member_of)
  f_seen_by : Addr
  d_seen_by : FuncData
  F_seen_by : L2.Fun K "seen_by" "seen_by" s_seen_by f_seen_by d_seen_by
  b_seen_by : Binds K d_seen_by p_seen_by []
  m_seen_by : mg "seen_by" = some (.ref f_seen_by)
  f_is_told : Addr
  d_is_told : FuncData
  F_is_told : L2.Fun K "is_told" "is_told" s_is_told f_is_told d_is_told
  b_is_told : Binds K d_is_told p_is_told []
  m_is_told : mg "is_told" = some (.ref f_is_told)
  f_widths : Addr
  d_widths : FuncData
  F_widths : L2.Fun K "widths" "widths" s_widths f_widths d_widths
  b_widths : Binds K d_widths p_widths []
  m_widths : mg "widths" = some (.ref f_widths)
  kb_widths_2_1_0 : KBn K d_widths p_widths 0 ["texts", "mark", "kind"] (fun us ws => us ++ pk2_1_0 ws) (fun us ws => us ++ pk2_1_0 ws)
  f_narrowest : Addr
  d_narrowest : FuncData
  F_narrowest : L2.Fun K "narrowest" "narrowest" s_narrowest f_narrowest d_narrowest
  b_narrowest : Binds K d_narrowest p_narrowest []
  m_narrowest : mg "narrowest" = some (.ref f_narrowest)
  kb_narrowest_2_1_0 : KBn K d_narrowest p_narrowest 0 ["texts", "mark", "kind"] (fun us ws => us ++ pk2_1_0 ws) (fun us ws => us ++ pk2_1_0 ws)
  f__law_pot : Addr
  d__law_pot : FuncData
  F__law_pot : L2.Fun K "_law_pot" "_law_pot" s__law_pot f__law_pot d__law_pot
  b__law_pot : Binds K d__law_pot p__law_pot []
  m__law_pot : mg "_law_pot" = some (.ref f__law_pot)
  f__law_ladle : Addr
  d__law_ladle : FuncData
  F__law_ladle : L2.Fun K "_law_ladle" "_law_ladle" s__law_ladle f__law_ladle d__law_ladle
  b__law_ladle : Binds K d__law_ladle p__law_ladle []
  m__law_ladle : mg "_law_ladle" = some (.ref f__law_ladle)
  f__law_one_of : Addr
  d__law_one_of : FuncData
  F__law_one_of : L2.Fun K "_law_one_of" "_law_one_of" s__law_one_of f__law_one_of d__law_one_of
  b__law_one_of : Binds K d__law_one_of p__law_one_of []
  m__law_one_of : mg "_law_one_of" = some (.ref f__law_one_of)
  f__law_cut : Addr
  d__law_cut : FuncData
  F__law_cut : L2.Fun K "_law_cut" "_law_cut" s__law_cut f__law_cut d__law_cut
  b__law_cut : Binds K d__law_cut p__law_cut []
  m__law_cut : mg "_law_cut" = some (.ref f__law_cut)
  f__law_seen : Addr
  d__law_seen : FuncData
  F__law_seen : L2.Fun K "_law_seen" "_law_seen" s__law_seen f__law_seen d__law_seen
  b__law_seen : Binds K d__law_seen p__law_seen []
  m__law_seen : mg "_law_seen" = some (.ref f__law_seen)
  f__law_line : Addr
  d__law_line : FuncData
  F__law_line : L2.Fun K "_law_line" "_law_line" s__law_line f__law_line d__law_line
  b__law_line : Binds K d__law_line p__law_line []
  m__law_line : mg "_law_line" = some (.ref f__law_line)
  f__law_some_lines : Addr
  d__law_some_lines : FuncData
  F__law_some_lines : L2.Fun K "_law_some_lines" "_law_some_lines" s__law_some_lines f__law_some_lines d__law_some_lines
  b__law_some_lines : Binds K d__law_some_lines p__law_some_lines []
  m__law_some_lines : mg "_law_some_lines" = some (.ref f__law_some_lines)
  f__law_family : Addr
  d__law_family : FuncData
  F__law_family : L2.Fun K "_law_family" "_law_family" s__law_family f__law_family d__law_family
  b__law_family : Binds K d__law_family p__law_family []
  m__law_family : mg "_law_family" = some (.ref f__law_family)
  f__law_is_told : Addr
  d__law_is_told : FuncData
  F__law_is_told : L2.Fun K "_law_is_told" "_law_is_told" s__law_is_told f__law_is_told d__law_is_told
  b__law_is_told : Binds K d__law_is_told p__law_is_told []
  m__law_is_told : mg "_law_is_told" = some (.ref f__law_is_told)
  f__law_right : Addr
  d__law_right : FuncData
  F__law_right : L2.Fun K "_law_right" "_law_right" s__law_right f__law_right d__law_right
  b__law_right : Binds K d__law_right p__law_right []
  m__law_right : mg "_law_right" = some (.ref f__law_right)
  f_law : Addr
  d_law : FuncData
  F_law : L2.Fun K "law" "law" s_law f_law d_law
  b_law : Binds K d_law p_law []
  m_law : mg "law" = some (.ref f_law)
set_option maxHeartbeats 16000000 in
theorem all_mk {K : PySem.W.Frag} {h : Heap} {mg : Str → Option Value} (X : K.In h) (G : h.Ns mainGlobals mg)
    {f_law : Addr} {oc_law kV_law dc_law pm_law cd_law ct_law : Value} {od_law an_law : Option Addr} {sl_law : Array (Option Value)}
    {f__law_right : Addr} {oc__law_right kV__law_right dc__law_right pm__law_right cd__law_right ct__law_right : Value} {od__law_right an__law_right : Option Addr} {sl__law_right : Array (Option Value)}
    {f__law_is_told : Addr} {oc__law_is_told kV__law_is_told dc__law_is_told pm__law_is_told cd__law_is_told ct__law_is_told : Value} {od__law_is_told an__law_is_told : Option Addr} {sl__law_is_told : Array (Option Value)}
    {f__law_family : Addr} {oc__law_family kV__law_family dc__law_family pm__law_family cd__law_family ct__law_family : Value} {od__law_family an__law_family : Option Addr} {sl__law_family : Array (Option Value)}
    {f__law_some_lines : Addr} {oc__law_some_lines kV__law_some_lines dc__law_some_lines pm__law_some_lines cd__law_some_lines ct__law_some_lines : Value} {od__law_some_lines an__law_some_lines : Option Addr} {sl__law_some_lines : Array (Option Value)}
    {f__law_line : Addr} {oc__law_line kV__law_line dc__law_line pm__law_line cd__law_line ct__law_line : Value} {od__law_line an__law_line : Option Addr} {sl__law_line : Array (Option Value)}
    {f__law_seen : Addr} {oc__law_seen kV__law_seen dc__law_seen pm__law_seen cd__law_seen ct__law_seen : Value} {od__law_seen an__law_seen : Option Addr} {sl__law_seen : Array (Option Value)}
    {f__law_cut : Addr} {oc__law_cut kV__law_cut dc__law_cut pm__law_cut cd__law_cut ct__law_cut : Value} {od__law_cut an__law_cut : Option Addr} {sl__law_cut : Array (Option Value)}
    {f__law_one_of : Addr} {oc__law_one_of kV__law_one_of dc__law_one_of pm__law_one_of cd__law_one_of ct__law_one_of : Value} {od__law_one_of an__law_one_of : Option Addr} {sl__law_one_of : Array (Option Value)}
    {f__law_ladle : Addr} {oc__law_ladle kV__law_ladle dc__law_ladle pm__law_ladle cd__law_ladle ct__law_ladle : Value} {od__law_ladle an__law_ladle : Option Addr} {sl__law_ladle : Array (Option Value)}
    {f__law_pot : Addr} {oc__law_pot kV__law_pot dc__law_pot pm__law_pot cd__law_pot ct__law_pot : Value} {od__law_pot an__law_pot : Option Addr} {sl__law_pot : Array (Option Value)}
    {f_narrowest : Addr} {oc_narrowest kV_narrowest dc_narrowest pm_narrowest cd_narrowest ct_narrowest : Value} {od_narrowest an_narrowest : Option Addr} {sl_narrowest : Array (Option Value)}
    {f_widths : Addr} {oc_widths kV_widths dc_widths pm_widths cd_widths ct_widths : Value} {od_widths an_widths : Option Addr} {sl_widths : Array (Option Value)}
    {f_is_told : Addr} {oc_is_told kV_is_told dc_is_told pm_is_told cd_is_told ct_is_told : Value} {od_is_told an_is_told : Option Addr} {sl_is_told : Array (Option Value)}
    {f_seen_by : Addr} {oc_seen_by kV_seen_by dc_seen_by pm_seen_by cd_seen_by ct_seen_by : Value} {od_seen_by an_seen_by : Option Addr} {sl_seen_by : Array (Option Value)}
    {f_member_of : Addr} {oc_member_of kV_member_of dc_member_of pm_member_of cd_member_of ct_member_of : Value} {od_member_of an_member_of : Option Addr} {sl_member_of : Array (Option Value)}
    {f_is_listed : Addr} {oc_is_listed kV_is_listed dc_is_listed pm_is_listed cd_is_listed ct_is_listed : Value} {od_is_listed an_is_listed : Option Addr} {sl_is_listed : Array (Option Value)}
    {f_check_list : Addr} {oc_check_list kV_check_list dc_check_list pm_check_list cd_check_list ct_check_list : Value} {od_check_list an_check_list : Option Addr} {sl_check_list : Array (Option Value)}
    {f_check_mark : Addr} {oc_check_mark kV_check_mark dc_check_mark pm_check_mark cd_check_mark ct_check_mark : Value} {od_check_mark an_check_mark : Option Addr} {sl_check_mark : Array (Option Value)}
    {f_check_kind : Addr} {oc_check_kind kV_check_kind dc_check_kind pm_check_kind cd_check_kind ct_check_kind : Value} {od_check_kind an_check_kind : Option Addr} {sl_check_kind : Array (Option Value)}
    {f_cut_by : Addr} {oc_cut_by kV_cut_by dc_cut_by pm_cut_by cd_cut_by ct_cut_by : Value} {od_cut_by an_cut_by : Option Addr} {sl_cut_by : Array (Option Value)}
    {f_check_number : Addr} {oc_check_number kV_check_number dc_check_number pm_check_number cd_check_number ct_check_number : Value} {od_check_number an_check_number : Option Addr} {sl_check_number : Array (Option Value)}
    {f_is_text : Addr} {oc_is_text kV_is_text dc_is_text pm_is_text cd_is_text ct_is_text : Value} {od_is_text an_is_text : Option Addr} {sl_is_text : Array (Option Value)}
    {f_is_integer : Addr} {oc_is_integer kV_is_integer dc_is_integer pm_is_integer cd_is_integer ct_is_integer : Value} {od_is_integer an_is_integer : Option Addr} {sl_is_integer : Array (Option Value)}
    {f_Shortener___repr__ : Addr} {oc_Shortener___repr__ kV_Shortener___repr__ dc_Shortener___repr__ pm_Shortener___repr__ cd_Shortener___repr__ ct_Shortener___repr__ : Value} {od_Shortener___repr__ an_Shortener___repr__ : Option Addr} {sl_Shortener___repr__ : Array (Option Value)}
    {f_Shortener___eq__ : Addr} {oc_Shortener___eq__ kV_Shortener___eq__ dc_Shortener___eq__ pm_Shortener___eq__ cd_Shortener___eq__ ct_Shortener___eq__ : Value} {od_Shortener___eq__ an_Shortener___eq__ : Option Addr} {sl_Shortener___eq__ : Array (Option Value)}
    {f_Shortener_cut : Addr} {oc_Shortener_cut kV_Shortener_cut dc_Shortener_cut pm_Shortener_cut cd_Shortener_cut ct_Shortener_cut : Value} {od_Shortener_cut an_Shortener_cut : Option Addr} {sl_Shortener_cut : Array (Option Value)}
    {f_Shortener___init__ : Addr} {oc_Shortener___init__ kV_Shortener___init__ dc_Shortener___init__ pm_Shortener___init__ cd_Shortener___init__ ct_Shortener___init__ : Value} {od_Shortener___init__ an_Shortener___init__ : Option Addr} {sl_Shortener___init__ : Array (Option Value)}
    {C_Shortener : Addr}
    {ad_KINDS : Addr} {od_KINDS : Option Addr} {nn_KINDS : Nat} {sl_KINDS : Array (Option Value)} {tk_KINDS_0 tk_KINDS_1 tk_KINDS_2 : Tok}
    {tk_SIGNS : Tok}
    {tk_MOST_SHELVED : Tok}
    {tk_MOST_TEXT : Tok}
    {tk_MOST_MARK : Tok}
    {tk_MOST_SIGNS : Tok}
    (x_n_abs : PySem.W.nsIn K mainGlobals "abs" = some none)
    (x_n_all : PySem.W.nsIn K mainGlobals "all" = some none)
    (x_n_bool : PySem.W.nsIn K mainGlobals "bool" = some none)
    (x_n_divmod : PySem.W.nsIn K mainGlobals "divmod" = some none)
    (x_n_enumerate : PySem.W.nsIn K mainGlobals "enumerate" = some none)
    (x_n_int : PySem.W.nsIn K mainGlobals "int" = some none)
    (x_n_isinstance : PySem.W.nsIn K mainGlobals "isinstance" = some none)
    (x_n_len : PySem.W.nsIn K mainGlobals "len" = some none)
    (x_n_list : PySem.W.nsIn K mainGlobals "list" = some none)
    (x_n_max : PySem.W.nsIn K mainGlobals "max" = some none)
    (x_n_min : PySem.W.nsIn K mainGlobals "min" = some none)
    (x_n_range : PySem.W.nsIn K mainGlobals "range" = some none)
    (x_n_repr : PySem.W.nsIn K mainGlobals "repr" = some none)
    (x_n_set : PySem.W.nsIn K mainGlobals "set" = some none)
    (x_n_str : PySem.W.nsIn K mainGlobals "str" = some none)
    (x_n_tuple : PySem.W.nsIn K mainGlobals "tuple" = some none)
    (x_k_MOST_SIGNS : PySem.W.nsIn K mainGlobals "MOST_SIGNS" = some (some (.int 40 tk_MOST_SIGNS)))
    (x_k_MOST_MARK : PySem.W.nsIn K mainGlobals "MOST_MARK" = some (some (.int 3 tk_MOST_MARK)))
    (x_k_MOST_TEXT : PySem.W.nsIn K mainGlobals "MOST_TEXT" = some (some (.int 200 tk_MOST_TEXT)))
    (x_k_MOST_SHELVED : PySem.W.nsIn K mainGlobals "MOST_SHELVED" = some (some (.int 20 tk_MOST_SHELVED)))
    (x_k_SIGNS : PySem.W.nsIn K mainGlobals "SIGNS" = some (some (.str (PySem.Str.ofString ".0123456789abcdefghijklmnopqrstuvwxyz~") tk_SIGNS)))
    (x_m_KINDS : PySem.W.nsIn K mainGlobals "KINDS" = some (some (.ref ad_KINDS)))
    (x_q_KINDS : K.lookup ad_KINDS = some ⟨.type "tuple", od_KINDS, .seq #[.str (PySem.Str.ofString "end") tk_KINDS_0, .str (PySem.Str.ofString "start") tk_KINDS_1, .str (PySem.Str.ofString "middle") tk_KINDS_2] nn_KINDS, sl_KINDS⟩)
    (x_C_Shortener : PySem.W.nsIn K mainGlobals "Shortener" = some (some (.ref C_Shortener)))
    (x_pg_Shortener : PySem.W.plainGet K C_Shortener Str.empty = true)
    (x_hd_Shortener : PySem.W.hasDictIn K C_Shortener = true)
    (x_po_Shortener : PySem.W.plainOver K C_Shortener = true)
    (x_sa_Shortener : PySem.W.findIn K (.ref C_Shortener) "__setattr__" = some (some (.builtin "object.__setattr__")))
    (x_mk_Shortener : PySem.W.makesIn K C_Shortener = true)
    (x_kc_Shortener : PySem.W.keepIn K (.ref C_Shortener) = true)
    (x_ha_Shortener : PySem.W.findIn K (.ref C_Shortener) "__class__" = some (some (.builtin "object.__class__")))
    (x_hn_Shortener : PySem.W.specialIn K (.builtin "object.__class__") "__get__" = some (some (.builtin "getset_descriptor.__get__")))
    (x_ht_Shortener : PySem.W.takesIn K (.builtin "object.__class__") = some true)
    (x_hm_Shortener : PySem.W.mroIn K C_Shortener (.type "object") = some true)
    (x_me_Shortener : PySem.W.kitOne K (.ref C_Shortener) (.ref C_Shortener) = some true)
    (x_na_Shortener_limit : PySem.W.findIn K (.ref C_Shortener) "limit" = some none)
    (x_na_Shortener_head : PySem.W.findIn K (.ref C_Shortener) "head" = some none)
    (x_na_Shortener_tail : PySem.W.findIn K (.ref C_Shortener) "tail" = some none)
    (x_na_Shortener_mark : PySem.W.findIn K (.ref C_Shortener) "mark" = some none)
    (x_na_Shortener_told : PySem.W.findIn K (.ref C_Shortener) "told" = some none)
    (x_ne_Shortener : PySem.W.findIn K (.ref C_Shortener) "__ne__" = some (some (.builtin "object.__ne__")))
    (x_a_Shortener___init__ : PySem.W.findIn K (.ref C_Shortener) "__init__" = some (some (.ref f_Shortener___init__)))
    (x_i_Shortener___init__ : PySem.W.isFn K (.ref f_Shortener___init__) = true)
    (x_l_Shortener___init__ : K.lookup f_Shortener___init__ = some ⟨oc_Shortener___init__, od_Shortener___init__, .func (PySem.W.fnOf "__init__" "Shortener.__init__" (L2.defArgs s_Shortener___init__) (L2.defBody s_Shortener___init__) (L2.defScope s_Shortener___init__) .none kV_Shortener___init__ dc_Shortener___init__ pm_Shortener___init__ an_Shortener___init__ cd_Shortener___init__ ct_Shortener___init__), sl_Shortener___init__⟩)
    (x_c_Shortener___init__ : PySem.W.codeIn K cd_Shortener___init__ "Shortener.__init__" = true)
    (x_k_Shortener___init__ : PySem.W.keepIn K (.ref f_Shortener___init__) = true)
    (x_a_Shortener_cut : PySem.W.findIn K (.ref C_Shortener) "cut" = some (some (.ref f_Shortener_cut)))
    (x_i_Shortener_cut : PySem.W.isFn K (.ref f_Shortener_cut) = true)
    (x_l_Shortener_cut : K.lookup f_Shortener_cut = some ⟨oc_Shortener_cut, od_Shortener_cut, .func (PySem.W.fnOf "cut" "Shortener.cut" (L2.defArgs s_Shortener_cut) (L2.defBody s_Shortener_cut) (L2.defScope s_Shortener_cut) .none kV_Shortener_cut dc_Shortener_cut pm_Shortener_cut an_Shortener_cut cd_Shortener_cut ct_Shortener_cut), sl_Shortener_cut⟩)
    (x_c_Shortener_cut : PySem.W.codeIn K cd_Shortener_cut "Shortener.cut" = true)
    (x_k_Shortener_cut : PySem.W.keepIn K (.ref f_Shortener_cut) = true)
    (x_a_Shortener___eq__ : PySem.W.findIn K (.ref C_Shortener) "__eq__" = some (some (.ref f_Shortener___eq__)))
    (x_i_Shortener___eq__ : PySem.W.isFn K (.ref f_Shortener___eq__) = true)
    (x_l_Shortener___eq__ : K.lookup f_Shortener___eq__ = some ⟨oc_Shortener___eq__, od_Shortener___eq__, .func (PySem.W.fnOf "__eq__" "Shortener.__eq__" (L2.defArgs s_Shortener___eq__) (L2.defBody s_Shortener___eq__) (L2.defScope s_Shortener___eq__) .none kV_Shortener___eq__ dc_Shortener___eq__ pm_Shortener___eq__ an_Shortener___eq__ cd_Shortener___eq__ ct_Shortener___eq__), sl_Shortener___eq__⟩)
    (x_c_Shortener___eq__ : PySem.W.codeIn K cd_Shortener___eq__ "Shortener.__eq__" = true)
    (x_k_Shortener___eq__ : PySem.W.keepIn K (.ref f_Shortener___eq__) = true)
    (x_a_Shortener___repr__ : PySem.W.findIn K (.ref C_Shortener) "__repr__" = some (some (.ref f_Shortener___repr__)))
    (x_i_Shortener___repr__ : PySem.W.isFn K (.ref f_Shortener___repr__) = true)
    (x_l_Shortener___repr__ : K.lookup f_Shortener___repr__ = some ⟨oc_Shortener___repr__, od_Shortener___repr__, .func (PySem.W.fnOf "__repr__" "Shortener.__repr__" (L2.defArgs s_Shortener___repr__) (L2.defBody s_Shortener___repr__) (L2.defScope s_Shortener___repr__) .none kV_Shortener___repr__ dc_Shortener___repr__ pm_Shortener___repr__ an_Shortener___repr__ cd_Shortener___repr__ ct_Shortener___repr__), sl_Shortener___repr__⟩)
    (x_c_Shortener___repr__ : PySem.W.codeIn K cd_Shortener___repr__ "Shortener.__repr__" = true)
    (x_k_Shortener___repr__ : PySem.W.keepIn K (.ref f_Shortener___repr__) = true)
    (x_a_is_integer : PySem.W.nsIn K mainGlobals "is_integer" = some (some (.ref f_is_integer)))
    (x_i_is_integer : PySem.W.isFn K (.ref f_is_integer) = true)
    (x_l_is_integer : K.lookup f_is_integer = some ⟨oc_is_integer, od_is_integer, .func (PySem.W.fnOf "is_integer" "is_integer" (L2.defArgs s_is_integer) (L2.defBody s_is_integer) (L2.defScope s_is_integer) .none kV_is_integer dc_is_integer pm_is_integer an_is_integer cd_is_integer ct_is_integer), sl_is_integer⟩)
    (x_c_is_integer : PySem.W.codeIn K cd_is_integer "is_integer" = true)
    (x_k_is_integer : PySem.W.keepIn K (.ref f_is_integer) = true)
    (x_a_is_text : PySem.W.nsIn K mainGlobals "is_text" = some (some (.ref f_is_text)))
    (x_i_is_text : PySem.W.isFn K (.ref f_is_text) = true)
    (x_l_is_text : K.lookup f_is_text = some ⟨oc_is_text, od_is_text, .func (PySem.W.fnOf "is_text" "is_text" (L2.defArgs s_is_text) (L2.defBody s_is_text) (L2.defScope s_is_text) .none kV_is_text dc_is_text pm_is_text an_is_text cd_is_text ct_is_text), sl_is_text⟩)
    (x_c_is_text : PySem.W.codeIn K cd_is_text "is_text" = true)
    (x_k_is_text : PySem.W.keepIn K (.ref f_is_text) = true)
    (x_a_check_number : PySem.W.nsIn K mainGlobals "check_number" = some (some (.ref f_check_number)))
    (x_i_check_number : PySem.W.isFn K (.ref f_check_number) = true)
    (x_l_check_number : K.lookup f_check_number = some ⟨oc_check_number, od_check_number, .func (PySem.W.fnOf "check_number" "check_number" (L2.defArgs s_check_number) (L2.defBody s_check_number) (L2.defScope s_check_number) .none kV_check_number dc_check_number pm_check_number an_check_number cd_check_number ct_check_number), sl_check_number⟩)
    (x_c_check_number : PySem.W.codeIn K cd_check_number "check_number" = true)
    (x_k_check_number : PySem.W.keepIn K (.ref f_check_number) = true)
    (x_a_cut_by : PySem.W.nsIn K mainGlobals "cut_by" = some (some (.ref f_cut_by)))
    (x_i_cut_by : PySem.W.isFn K (.ref f_cut_by) = true)
    (x_l_cut_by : K.lookup f_cut_by = some ⟨oc_cut_by, od_cut_by, .func (PySem.W.fnOf "cut_by" "cut_by" (L2.defArgs s_cut_by) (L2.defBody s_cut_by) (L2.defScope s_cut_by) .none kV_cut_by dc_cut_by pm_cut_by an_cut_by cd_cut_by ct_cut_by), sl_cut_by⟩)
    (x_c_cut_by : PySem.W.codeIn K cd_cut_by "cut_by" = true)
    (x_k_cut_by : PySem.W.keepIn K (.ref f_cut_by) = true)
    (x_a_check_kind : PySem.W.nsIn K mainGlobals "check_kind" = some (some (.ref f_check_kind)))
    (x_i_check_kind : PySem.W.isFn K (.ref f_check_kind) = true)
    (x_l_check_kind : K.lookup f_check_kind = some ⟨oc_check_kind, od_check_kind, .func (PySem.W.fnOf "check_kind" "check_kind" (L2.defArgs s_check_kind) (L2.defBody s_check_kind) (L2.defScope s_check_kind) .none kV_check_kind dc_check_kind pm_check_kind an_check_kind cd_check_kind ct_check_kind), sl_check_kind⟩)
    (x_c_check_kind : PySem.W.codeIn K cd_check_kind "check_kind" = true)
    (x_k_check_kind : PySem.W.keepIn K (.ref f_check_kind) = true)
    (x_a_check_mark : PySem.W.nsIn K mainGlobals "check_mark" = some (some (.ref f_check_mark)))
    (x_i_check_mark : PySem.W.isFn K (.ref f_check_mark) = true)
    (x_l_check_mark : K.lookup f_check_mark = some ⟨oc_check_mark, od_check_mark, .func (PySem.W.fnOf "check_mark" "check_mark" (L2.defArgs s_check_mark) (L2.defBody s_check_mark) (L2.defScope s_check_mark) .none kV_check_mark dc_check_mark pm_check_mark an_check_mark cd_check_mark ct_check_mark), sl_check_mark⟩)
    (x_c_check_mark : PySem.W.codeIn K cd_check_mark "check_mark" = true)
    (x_k_check_mark : PySem.W.keepIn K (.ref f_check_mark) = true)
    (x_a_check_list : PySem.W.nsIn K mainGlobals "check_list" = some (some (.ref f_check_list)))
    (x_i_check_list : PySem.W.isFn K (.ref f_check_list) = true)
    (x_l_check_list : K.lookup f_check_list = some ⟨oc_check_list, od_check_list, .func (PySem.W.fnOf "check_list" "check_list" (L2.defArgs s_check_list) (L2.defBody s_check_list) (L2.defScope s_check_list) .none kV_check_list dc_check_list pm_check_list an_check_list cd_check_list ct_check_list), sl_check_list⟩)
    (x_c_check_list : PySem.W.codeIn K cd_check_list "check_list" = true)
    (x_k_check_list : PySem.W.keepIn K (.ref f_check_list) = true)
    (x_a_is_listed : PySem.W.nsIn K mainGlobals "is_listed" = some (some (.ref f_is_listed)))
    (x_i_is_listed : PySem.W.isFn K (.ref f_is_listed) = true)
    (x_l_is_listed : K.lookup f_is_listed = some ⟨oc_is_listed, od_is_listed, .func (PySem.W.fnOf "is_listed" "is_listed" (L2.defArgs s_is_listed) (L2.defBody s_is_listed) (L2.defScope s_is_listed) .none kV_is_listed dc_is_listed pm_is_listed an_is_listed cd_is_listed ct_is_listed), sl_is_listed⟩)
    (x_c_is_listed : PySem.W.codeIn K cd_is_listed "is_listed" = true)
    (x_k_is_listed : PySem.W.keepIn K (.ref f_is_listed) = true)
    (x_a_member_of : PySem.W.nsIn K mainGlobals "member_of" = some (some (.ref f_member_of)))
    (x_i_member_of : PySem.W.isFn K (.ref f_member_of) = true)
    (x_l_member_of : K.lookup f_member_of = some ⟨oc_member_of, od_member_of, .func (PySem.W.fnOf "member_of" "member_of" (L2.defArgs s_member_of) (L2.defBody s_member_of) (L2.defScope s_member_of) .none kV_member_of dc_member_of pm_member_of an_member_of cd_member_of ct_member_of), sl_member_of⟩)
    (x_c_member_of : PySem.W.codeIn K cd_member_of "member_of" = true)
    (x_k_member_of : PySem.W.keepIn K (.ref f_member_of) = true)
    (x_a_seen_by : PySem.W.nsIn K mainGlobals "seen_by" = some (some (.ref f_seen_by)))
    (x_i_seen_by : PySem.W.isFn K (.ref f_seen_by) = true)
    (x_l_seen_by : K.lookup f_seen_by = some ⟨oc_seen_by, od_seen_by, .func (PySem.W.fnOf "seen_by" "seen_by" (L2.defArgs s_seen_by) (L2.defBody s_seen_by) (L2.defScope s_seen_by) .none kV_seen_by dc_seen_by pm_seen_by an_seen_by cd_seen_by ct_seen_by), sl_seen_by⟩)
    (x_c_seen_by : PySem.W.codeIn K cd_seen_by "seen_by" = true)
    (x_k_seen_by : PySem.W.keepIn K (.ref f_seen_by) = true)
    (x_a_is_told : PySem.W.nsIn K mainGlobals "is_told" = some (some (.ref f_is_told)))
    (x_i_is_told : PySem.W.isFn K (.ref f_is_told) = true)
    (x_l_is_told : K.lookup f_is_told = some ⟨oc_is_told, od_is_told, .func (PySem.W.fnOf "is_told" "is_told" (L2.defArgs s_is_told) (L2.defBody s_is_told) (L2.defScope s_is_told) .none kV_is_told dc_is_told pm_is_told an_is_told cd_is_told ct_is_told), sl_is_told⟩)
    (x_c_is_told : PySem.W.codeIn K cd_is_told "is_told" = true)
    (x_k_is_told : PySem.W.keepIn K (.ref f_is_told) = true)
    (x_a_widths : PySem.W.nsIn K mainGlobals "widths" = some (some (.ref f_widths)))
    (x_i_widths : PySem.W.isFn K (.ref f_widths) = true)
    (x_l_widths : K.lookup f_widths = some ⟨oc_widths, od_widths, .func (PySem.W.fnOf "widths" "widths" (L2.defArgs s_widths) (L2.defBody s_widths) (L2.defScope s_widths) .none kV_widths dc_widths pm_widths an_widths cd_widths ct_widths), sl_widths⟩)
    (x_c_widths : PySem.W.codeIn K cd_widths "widths" = true)
    (x_k_widths : PySem.W.keepIn K (.ref f_widths) = true)
    (x_a_narrowest : PySem.W.nsIn K mainGlobals "narrowest" = some (some (.ref f_narrowest)))
    (x_i_narrowest : PySem.W.isFn K (.ref f_narrowest) = true)
    (x_l_narrowest : K.lookup f_narrowest = some ⟨oc_narrowest, od_narrowest, .func (PySem.W.fnOf "narrowest" "narrowest" (L2.defArgs s_narrowest) (L2.defBody s_narrowest) (L2.defScope s_narrowest) .none kV_narrowest dc_narrowest pm_narrowest an_narrowest cd_narrowest ct_narrowest), sl_narrowest⟩)
    (x_c_narrowest : PySem.W.codeIn K cd_narrowest "narrowest" = true)
    (x_k_narrowest : PySem.W.keepIn K (.ref f_narrowest) = true)
    (x_a__law_pot : PySem.W.nsIn K mainGlobals "_law_pot" = some (some (.ref f__law_pot)))
    (x_i__law_pot : PySem.W.isFn K (.ref f__law_pot) = true)
    (x_l__law_pot : K.lookup f__law_pot = some ⟨oc__law_pot, od__law_pot, .func (PySem.W.fnOf "_law_pot" "_law_pot" (L2.defArgs s__law_pot) (L2.defBody s__law_pot) (L2.defScope s__law_pot) .none kV__law_pot dc__law_pot pm__law_pot an__law_pot cd__law_pot ct__law_pot), sl__law_pot⟩)
    (x_c__law_pot : PySem.W.codeIn K cd__law_pot "_law_pot" = true)
    (x_k__law_pot : PySem.W.keepIn K (.ref f__law_pot) = true)
    (x_a__law_ladle : PySem.W.nsIn K mainGlobals "_law_ladle" = some (some (.ref f__law_ladle)))
    (x_i__law_ladle : PySem.W.isFn K (.ref f__law_ladle) = true)
    (x_l__law_ladle : K.lookup f__law_ladle = some ⟨oc__law_ladle, od__law_ladle, .func (PySem.W.fnOf "_law_ladle" "_law_ladle" (L2.defArgs s__law_ladle) (L2.defBody s__law_ladle) (L2.defScope s__law_ladle) .none kV__law_ladle dc__law_ladle pm__law_ladle an__law_ladle cd__law_ladle ct__law_ladle), sl__law_ladle⟩)
    (x_c__law_ladle : PySem.W.codeIn K cd__law_ladle "_law_ladle" = true)
    (x_k__law_ladle : PySem.W.keepIn K (.ref f__law_ladle) = true)
    (x_a__law_one_of : PySem.W.nsIn K mainGlobals "_law_one_of" = some (some (.ref f__law_one_of)))
    (x_i__law_one_of : PySem.W.isFn K (.ref f__law_one_of) = true)
    (x_l__law_one_of : K.lookup f__law_one_of = some ⟨oc__law_one_of, od__law_one_of, .func (PySem.W.fnOf "_law_one_of" "_law_one_of" (L2.defArgs s__law_one_of) (L2.defBody s__law_one_of) (L2.defScope s__law_one_of) .none kV__law_one_of dc__law_one_of pm__law_one_of an__law_one_of cd__law_one_of ct__law_one_of), sl__law_one_of⟩)
    (x_c__law_one_of : PySem.W.codeIn K cd__law_one_of "_law_one_of" = true)
    (x_k__law_one_of : PySem.W.keepIn K (.ref f__law_one_of) = true)
    (x_a__law_cut : PySem.W.nsIn K mainGlobals "_law_cut" = some (some (.ref f__law_cut)))
    (x_i__law_cut : PySem.W.isFn K (.ref f__law_cut) = true)
    (x_l__law_cut : K.lookup f__law_cut = some ⟨oc__law_cut, od__law_cut, .func (PySem.W.fnOf "_law_cut" "_law_cut" (L2.defArgs s__law_cut) (L2.defBody s__law_cut) (L2.defScope s__law_cut) .none kV__law_cut dc__law_cut pm__law_cut an__law_cut cd__law_cut ct__law_cut), sl__law_cut⟩)
    (x_c__law_cut : PySem.W.codeIn K cd__law_cut "_law_cut" = true)
    (x_k__law_cut : PySem.W.keepIn K (.ref f__law_cut) = true)
    (x_a__law_seen : PySem.W.nsIn K mainGlobals "_law_seen" = some (some (.ref f__law_seen)))
    (x_i__law_seen : PySem.W.isFn K (.ref f__law_seen) = true)
    (x_l__law_seen : K.lookup f__law_seen = some ⟨oc__law_seen, od__law_seen, .func (PySem.W.fnOf "_law_seen" "_law_seen" (L2.defArgs s__law_seen) (L2.defBody s__law_seen) (L2.defScope s__law_seen) .none kV__law_seen dc__law_seen pm__law_seen an__law_seen cd__law_seen ct__law_seen), sl__law_seen⟩)
    (x_c__law_seen : PySem.W.codeIn K cd__law_seen "_law_seen" = true)
    (x_k__law_seen : PySem.W.keepIn K (.ref f__law_seen) = true)
    (x_a__law_line : PySem.W.nsIn K mainGlobals "_law_line" = some (some (.ref f__law_line)))
    (x_i__law_line : PySem.W.isFn K (.ref f__law_line) = true)
    (x_l__law_line : K.lookup f__law_line = some ⟨oc__law_line, od__law_line, .func (PySem.W.fnOf "_law_line" "_law_line" (L2.defArgs s__law_line) (L2.defBody s__law_line) (L2.defScope s__law_line) .none kV__law_line dc__law_line pm__law_line an__law_line cd__law_line ct__law_line), sl__law_line⟩)
    (x_c__law_line : PySem.W.codeIn K cd__law_line "_law_line" = true)
    (x_k__law_line : PySem.W.keepIn K (.ref f__law_line) = true)
    (x_a__law_some_lines : PySem.W.nsIn K mainGlobals "_law_some_lines" = some (some (.ref f__law_some_lines)))
    (x_i__law_some_lines : PySem.W.isFn K (.ref f__law_some_lines) = true)
    (x_l__law_some_lines : K.lookup f__law_some_lines = some ⟨oc__law_some_lines, od__law_some_lines, .func (PySem.W.fnOf "_law_some_lines" "_law_some_lines" (L2.defArgs s__law_some_lines) (L2.defBody s__law_some_lines) (L2.defScope s__law_some_lines) .none kV__law_some_lines dc__law_some_lines pm__law_some_lines an__law_some_lines cd__law_some_lines ct__law_some_lines), sl__law_some_lines⟩)
    (x_c__law_some_lines : PySem.W.codeIn K cd__law_some_lines "_law_some_lines" = true)
    (x_k__law_some_lines : PySem.W.keepIn K (.ref f__law_some_lines) = true)
    (x_a__law_family : PySem.W.nsIn K mainGlobals "_law_family" = some (some (.ref f__law_family)))
    (x_i__law_family : PySem.W.isFn K (.ref f__law_family) = true)
    (x_l__law_family : K.lookup f__law_family = some ⟨oc__law_family, od__law_family, .func (PySem.W.fnOf "_law_family" "_law_family" (L2.defArgs s__law_family) (L2.defBody s__law_family) (L2.defScope s__law_family) .none kV__law_family dc__law_family pm__law_family an__law_family cd__law_family ct__law_family), sl__law_family⟩)
    (x_c__law_family : PySem.W.codeIn K cd__law_family "_law_family" = true)
    (x_k__law_family : PySem.W.keepIn K (.ref f__law_family) = true)
    (x_a__law_is_told : PySem.W.nsIn K mainGlobals "_law_is_told" = some (some (.ref f__law_is_told)))
    (x_i__law_is_told : PySem.W.isFn K (.ref f__law_is_told) = true)
    (x_l__law_is_told : K.lookup f__law_is_told = some ⟨oc__law_is_told, od__law_is_told, .func (PySem.W.fnOf "_law_is_told" "_law_is_told" (L2.defArgs s__law_is_told) (L2.defBody s__law_is_told) (L2.defScope s__law_is_told) .none kV__law_is_told dc__law_is_told pm__law_is_told an__law_is_told cd__law_is_told ct__law_is_told), sl__law_is_told⟩)
    (x_c__law_is_told : PySem.W.codeIn K cd__law_is_told "_law_is_told" = true)
    (x_k__law_is_told : PySem.W.keepIn K (.ref f__law_is_told) = true)
    (x_a__law_right : PySem.W.nsIn K mainGlobals "_law_right" = some (some (.ref f__law_right)))
    (x_i__law_right : PySem.W.isFn K (.ref f__law_right) = true)
    (x_l__law_right : K.lookup f__law_right = some ⟨oc__law_right, od__law_right, .func (PySem.W.fnOf "_law_right" "_law_right" (L2.defArgs s__law_right) (L2.defBody s__law_right) (L2.defScope s__law_right) .none kV__law_right dc__law_right pm__law_right an__law_right cd__law_right ct__law_right), sl__law_right⟩)
    (x_c__law_right : PySem.W.codeIn K cd__law_right "_law_right" = true)
    (x_k__law_right : PySem.W.keepIn K (.ref f__law_right) = true)
    (x_a_law : PySem.W.nsIn K mainGlobals "law" = some (some (.ref f_law)))
    (x_i_law : PySem.W.isFn K (.ref f_law) = true)
    (x_l_law : K.lookup f_law = some ⟨oc_law, od_law, .func (PySem.W.fnOf "law" "law" (L2.defArgs s_law) (L2.defBody s_law) (L2.defScope s_law) .none kV_law dc_law pm_law an_law cd_law ct_law), sl_law⟩)
    (x_c_law : PySem.W.codeIn K cd_law "law" = true)
    (x_k_law : PySem.W.keepIn K (.ref f_law) = true) : ∃ T : Tx K mg, T.f_law = f_law := by
  exact ⟨⟨PySem.W.mg_none_of X G x_n_abs,
    PySem.W.mg_none_of X G x_n_all,
    PySem.W.mg_none_of X G x_n_bool,
    PySem.W.mg_none_of X G x_n_divmod,
    PySem.W.mg_none_of X G x_n_enumerate,
    PySem.W.mg_none_of X G x_n_int,
    PySem.W.mg_none_of X G x_n_isinstance,
    PySem.W.mg_none_of X G x_n_len,
    PySem.W.mg_none_of X G x_n_list,
    PySem.W.mg_none_of X G x_n_max,
    PySem.W.mg_none_of X G x_n_min,
    PySem.W.mg_none_of X G x_n_range,
    PySem.W.mg_none_of X G x_n_repr,
    PySem.W.mg_none_of X G x_n_set,
    PySem.W.mg_none_of X G x_n_str,
    PySem.W.mg_none_of X G x_n_tuple,
    ⟨_, PySem.W.mg_of X G x_k_MOST_SIGNS, _, rfl⟩,
    ⟨_, PySem.W.mg_of X G x_k_MOST_MARK, _, rfl⟩,
    ⟨_, PySem.W.mg_of X G x_k_MOST_TEXT, _, rfl⟩,
    ⟨_, PySem.W.mg_of X G x_k_MOST_SHELVED, _, rfl⟩,
    ⟨_, PySem.W.mg_of X G x_k_SIGNS, _, rfl⟩,
    ad_KINDS,
    PySem.W.mg_of X G x_m_KINDS,
    fun _ => .inr ⟨_, _, _, x_q_KINDS, rfl, rfl, (by show 3 ≤ sizeLine; decide), .cons ⟨_, rfl⟩ (.cons ⟨_, rfl⟩ (.cons ⟨_, rfl⟩ (.nil)))⟩,
    C_Shortener,
    PySem.W.mg_of X G x_C_Shortener,
    ⟨x_pg_Shortener, x_hd_Shortener, x_po_Shortener, x_sa_Shortener⟩,
    ⟨⟨x_pg_Shortener, x_hd_Shortener, x_po_Shortener, x_sa_Shortener⟩, x_ha_Shortener, x_hn_Shortener, x_ht_Shortener, x_hm_Shortener, x_me_Shortener⟩,
    x_na_Shortener_limit,
    x_na_Shortener_head,
    x_na_Shortener_tail,
    x_na_Shortener_mark,
    x_na_Shortener_told,
    x_ne_Shortener,
    x_hm_Shortener,
    f_Shortener___init__,
    _,
    (fun_mk (st := s_Shortener___init__) x_l_Shortener___init__ x_c_Shortener___init__ x_k_Shortener___init__),
    (fun_mk (st := s_Shortener___init__) x_l_Shortener___init__ x_c_Shortener___init__ x_k_Shortener___init__).binds (ps := p_Shortener___init__) fun _ _ _ _ _ _ us hl => match us, hl with | [_, _, _, _, _], _ => rfl,
    ⟨x_mk_Shortener, x_a_Shortener___init__, x_i_Shortener___init__, x_kc_Shortener⟩,
    f_Shortener_cut,
    _,
    (fun_mk (st := s_Shortener_cut) x_l_Shortener_cut x_c_Shortener_cut x_k_Shortener_cut),
    (fun_mk (st := s_Shortener_cut) x_l_Shortener_cut x_c_Shortener_cut x_k_Shortener_cut).binds (ps := p_Shortener_cut) fun _ _ _ _ _ _ us hl => match us, hl with | [_, _], _ => rfl,
    ⟨x_a_Shortener_cut, x_i_Shortener_cut, x_k_Shortener_cut⟩,
    f_Shortener___eq__,
    _,
    (fun_mk (st := s_Shortener___eq__) x_l_Shortener___eq__ x_c_Shortener___eq__ x_k_Shortener___eq__),
    (fun_mk (st := s_Shortener___eq__) x_l_Shortener___eq__ x_c_Shortener___eq__ x_k_Shortener___eq__).binds (ps := p_Shortener___eq__) fun _ _ _ _ _ _ us hl => match us, hl with | [_, _], _ => rfl,
    ⟨x_a_Shortener___eq__, x_i_Shortener___eq__, x_k_Shortener___eq__⟩,
    f_Shortener___repr__,
    _,
    (fun_mk (st := s_Shortener___repr__) x_l_Shortener___repr__ x_c_Shortener___repr__ x_k_Shortener___repr__),
    (fun_mk (st := s_Shortener___repr__) x_l_Shortener___repr__ x_c_Shortener___repr__ x_k_Shortener___repr__).binds (ps := p_Shortener___repr__) fun _ _ _ _ _ _ us hl => match us, hl with | [_], _ => rfl,
    ⟨x_a_Shortener___repr__, x_i_Shortener___repr__, x_k_Shortener___repr__⟩,
    f_is_integer,
    _,
    (fun_mk (st := s_is_integer) x_l_is_integer x_c_is_integer x_k_is_integer),
    (fun_mk (st := s_is_integer) x_l_is_integer x_c_is_integer x_k_is_integer).binds (ps := p_is_integer) fun _ _ _ _ _ _ us hl => match us, hl with | [_], _ => rfl,
    PySem.W.mg_of X G x_a_is_integer,
    f_is_text,
    _,
    (fun_mk (st := s_is_text) x_l_is_text x_c_is_text x_k_is_text),
    (fun_mk (st := s_is_text) x_l_is_text x_c_is_text x_k_is_text).binds (ps := p_is_text) fun _ _ _ _ _ _ us hl => match us, hl with | [_, _], _ => rfl,
    PySem.W.mg_of X G x_a_is_text,
    f_check_number,
    _,
    (fun_mk (st := s_check_number) x_l_check_number x_c_check_number x_k_check_number),
    (fun_mk (st := s_check_number) x_l_check_number x_c_check_number x_k_check_number).binds (ps := p_check_number) fun _ _ _ _ _ _ us hl => match us, hl with | [_], _ => rfl,
    PySem.W.mg_of X G x_a_check_number,
    f_cut_by,
    _,
    (fun_mk (st := s_cut_by) x_l_cut_by x_c_cut_by x_k_cut_by),
    (fun_mk (st := s_cut_by) x_l_cut_by x_c_cut_by x_k_cut_by).binds (ps := p_cut_by) fun _ _ _ _ _ _ us hl => match us, hl with | [_, _], _ => rfl,
    PySem.W.mg_of X G x_a_cut_by,
    f_check_kind,
    _,
    (fun_mk (st := s_check_kind) x_l_check_kind x_c_check_kind x_k_check_kind),
    (fun_mk (st := s_check_kind) x_l_check_kind x_c_check_kind x_k_check_kind).binds (ps := p_check_kind) fun _ _ _ _ _ _ us hl => match us, hl with | [_], _ => rfl,
    PySem.W.mg_of X G x_a_check_kind,
    f_check_mark,
    _,
    (fun_mk (st := s_check_mark) x_l_check_mark x_c_check_mark x_k_check_mark),
    (fun_mk (st := s_check_mark) x_l_check_mark x_c_check_mark x_k_check_mark).binds (ps := p_check_mark) fun _ _ _ _ _ _ us hl => match us, hl with | [_], _ => rfl,
    PySem.W.mg_of X G x_a_check_mark,
    f_check_list,
    _,
    (fun_mk (st := s_check_list) x_l_check_list x_c_check_list x_k_check_list),
    (fun_mk (st := s_check_list) x_l_check_list x_c_check_list x_k_check_list).binds (ps := p_check_list) fun _ _ _ _ _ _ us hl => match us, hl with | [_, _], _ => rfl,
    PySem.W.mg_of X G x_a_check_list,
    f_is_listed,
    _,
    (fun_mk (st := s_is_listed) x_l_is_listed x_c_is_listed x_k_is_listed),
    (fun_mk (st := s_is_listed) x_l_is_listed x_c_is_listed x_k_is_listed).binds (ps := p_is_listed) fun _ _ _ _ _ _ us hl => match us, hl with | [_], _ => rfl,
    PySem.W.mg_of X G x_a_is_listed,
    f_member_of,
    _,
    (fun_mk (st := s_member_of) x_l_member_of x_c_member_of x_k_member_of),
    (fun_mk (st := s_member_of) x_l_member_of x_c_member_of x_k_member_of).binds (ps := p_member_of) fun _ _ _ _ _ _ us hl => match us, hl with | [_, _, _], _ => rfl,
    PySem.W.mg_of X G x_a_member_of,
    f_seen_by,
    _,
    (fun_mk (st := s_seen_by) x_l_seen_by x_c_seen_by x_k_seen_by),
    (fun_mk (st := s_seen_by) x_l_seen_by x_c_seen_by x_k_seen_by).binds (ps := p_seen_by) fun _ _ _ _ _ _ us hl => match us, hl with | [_, _], _ => rfl,
    PySem.W.mg_of X G x_a_seen_by,
    f_is_told,
    _,
    (fun_mk (st := s_is_told) x_l_is_told x_c_is_told x_k_is_told),
    (fun_mk (st := s_is_told) x_l_is_told x_c_is_told x_k_is_told).binds (ps := p_is_told) fun _ _ _ _ _ _ us hl => match us, hl with | [_, _], _ => rfl,
    PySem.W.mg_of X G x_a_is_told,
    f_widths,
    _,
    (fun_mk (st := s_widths) x_l_widths x_c_widths x_k_widths),
    (fun_mk (st := s_widths) x_l_widths x_c_widths x_k_widths).binds (ps := p_widths) fun _ _ _ _ _ _ us hl => match us, hl with | [_, _, _], _ => rfl,
    PySem.W.mg_of X G x_a_widths,
    kbn_of (fun_mk (st := s_widths) x_l_widths x_c_widths x_k_widths) rel2_1_0 (fun _ _ _ _ _ _ us ws h1 h2 => match us, ws, h1, h2 with | [], [_, _, _], _, _ => rfl),
    f_narrowest,
    _,
    (fun_mk (st := s_narrowest) x_l_narrowest x_c_narrowest x_k_narrowest),
    (fun_mk (st := s_narrowest) x_l_narrowest x_c_narrowest x_k_narrowest).binds (ps := p_narrowest) fun _ _ _ _ _ _ us hl => match us, hl with | [_, _, _], _ => rfl,
    PySem.W.mg_of X G x_a_narrowest,
    kbn_of (fun_mk (st := s_narrowest) x_l_narrowest x_c_narrowest x_k_narrowest) rel2_1_0 (fun _ _ _ _ _ _ us ws h1 h2 => match us, ws, h1, h2 with | [], [_, _, _], _, _ => rfl),
    f__law_pot,
    _,
    (fun_mk (st := s__law_pot) x_l__law_pot x_c__law_pot x_k__law_pot),
    (fun_mk (st := s__law_pot) x_l__law_pot x_c__law_pot x_k__law_pot).binds (ps := p__law_pot) fun _ _ _ _ _ _ us hl => match us, hl with | [_, _], _ => rfl,
    PySem.W.mg_of X G x_a__law_pot,
    f__law_ladle,
    _,
    (fun_mk (st := s__law_ladle) x_l__law_ladle x_c__law_ladle x_k__law_ladle),
    (fun_mk (st := s__law_ladle) x_l__law_ladle x_c__law_ladle x_k__law_ladle).binds (ps := p__law_ladle) fun _ _ _ _ _ _ us hl => match us, hl with | [_, _], _ => rfl,
    PySem.W.mg_of X G x_a__law_ladle,
    f__law_one_of,
    _,
    (fun_mk (st := s__law_one_of) x_l__law_one_of x_c__law_one_of x_k__law_one_of),
    (fun_mk (st := s__law_one_of) x_l__law_one_of x_c__law_one_of x_k__law_one_of).binds (ps := p__law_one_of) fun _ _ _ _ _ _ us hl => match us, hl with | [_, _], _ => rfl,
    PySem.W.mg_of X G x_a__law_one_of,
    f__law_cut,
    _,
    (fun_mk (st := s__law_cut) x_l__law_cut x_c__law_cut x_k__law_cut),
    (fun_mk (st := s__law_cut) x_l__law_cut x_c__law_cut x_k__law_cut).binds (ps := p__law_cut) fun _ _ _ _ _ _ us hl => match us, hl with | [_, _], _ => rfl,
    PySem.W.mg_of X G x_a__law_cut,
    f__law_seen,
    _,
    (fun_mk (st := s__law_seen) x_l__law_seen x_c__law_seen x_k__law_seen),
    (fun_mk (st := s__law_seen) x_l__law_seen x_c__law_seen x_k__law_seen).binds (ps := p__law_seen) fun _ _ _ _ _ _ us hl => match us, hl with | [_, _], _ => rfl,
    PySem.W.mg_of X G x_a__law_seen,
    f__law_line,
    _,
    (fun_mk (st := s__law_line) x_l__law_line x_c__law_line x_k__law_line),
    (fun_mk (st := s__law_line) x_l__law_line x_c__law_line x_k__law_line).binds (ps := p__law_line) fun _ _ _ _ _ _ us hl => match us, hl with | [_, _], _ => rfl,
    PySem.W.mg_of X G x_a__law_line,
    f__law_some_lines,
    _,
    (fun_mk (st := s__law_some_lines) x_l__law_some_lines x_c__law_some_lines x_k__law_some_lines),
    (fun_mk (st := s__law_some_lines) x_l__law_some_lines x_c__law_some_lines x_k__law_some_lines).binds (ps := p__law_some_lines) fun _ _ _ _ _ _ us hl => match us, hl with | [_, _], _ => rfl,
    PySem.W.mg_of X G x_a__law_some_lines,
    f__law_family,
    _,
    (fun_mk (st := s__law_family) x_l__law_family x_c__law_family x_k__law_family),
    (fun_mk (st := s__law_family) x_l__law_family x_c__law_family x_k__law_family).binds (ps := p__law_family) fun _ _ _ _ _ _ us hl => match us, hl with | [_, _, _], _ => rfl,
    PySem.W.mg_of X G x_a__law_family,
    f__law_is_told,
    _,
    (fun_mk (st := s__law_is_told) x_l__law_is_told x_c__law_is_told x_k__law_is_told),
    (fun_mk (st := s__law_is_told) x_l__law_is_told x_c__law_is_told x_k__law_is_told).binds (ps := p__law_is_told) fun _ _ _ _ _ _ us hl => match us, hl with | [_, _], _ => rfl,
    PySem.W.mg_of X G x_a__law_is_told,
    f__law_right,
    _,
    (fun_mk (st := s__law_right) x_l__law_right x_c__law_right x_k__law_right),
    (fun_mk (st := s__law_right) x_l__law_right x_c__law_right x_k__law_right).binds (ps := p__law_right) fun _ _ _ _ _ _ us hl => match us, hl with | [_], _ => rfl,
    PySem.W.mg_of X G x_a__law_right,
    f_law,
    _,
    (fun_mk (st := s_law) x_l_law x_c_law x_k_law),
    (fun_mk (st := s_law) x_l_law x_c_law x_k_law).binds (ps := p_law) fun _ _ _ _ _ _ us hl => match us, hl with | [_], _ => rfl,
    PySem.W.mg_of X G x_a_law⟩, rfl⟩
end G
local macro_rules | `(tactic| walk_at "go") => `(tactic| simp (config := { failIfUnchanged := false, maxSteps := 2000000 }) only [U.e_var, U.e_c, U.e_op, U.e_un, U.e_nil, U.e_cons, U.e_cb, U.e_call, U.e_tup, U.e_lst, U.e_if, U.e_andV, U.e_orV, U.e_notV, U.e_chain, U.e_test, U.e_B, U.e_and, U.e_or, U.e_not, U.e_asg, U.e_name, U.e_seq, U.e_next, U.e_ret, U.e_ifS, U.e_drop, U.e_part, U.e_noPart, U.e_sl, U.e_I0, U.e_I, U.e_exbl, U.e_exint, U.e_exstr, U.e_exsome, U.e_pair, U.e_expair, U.e_m1, U.e_m0, U.e_bm, U.e_bm0, U.e_fld, U.e_sfld, U.e_then, U.e_star, U.e_yes, U.e_gcons, U.e_gnil, U.e_gtup, U.e_gsub, U.e_make, U.e_makeK, U.e_callN, U.e_meth, U.e_kTup, U.e_lcL, U.e_lcT, U.e_lcS, U.e_lcR, U.e_lcR2, U.e_forL, U.e_forT, U.e_forR, U.e_forR2, U.e_forE, U.e_lstRg, L2.wipe, eq_self,
  U.rAddU, U.rEqU, U.rNeU, U.rLtU, U.rInU, U.rNinU, U.rIxU, U.rSlU, U.rLenU, U.rInt1, U.rI1, U.rI2, L2.rU, U.rListU, L2.scal,
  L2.start, List.map_cons, List.map_nil, List.length_cons, List.length_nil, List.cons_append, List.nil_append, List.append_nil, List.getElem?_cons_zero, List.getElem?_cons_succ, List.set_cons_zero, List.set_cons_succ, Nat.reduceAdd, Nat.reduceSub, List.reduceReplicate, Nat.zero_add,
  if_true, if_false, Bool.false_eq_true, decide_eq_true_eq, Bool.not_eq_true', decide_eq_false_iff_not, Bool.not_true, Bool.not_false, L2.V.int.injEq, L2.V.str.injEq, L2.V.bl.injEq, L2.V.ref.injEq, exists_eq_left', exists_and_left, true_and, and_true, not_true_eq_false, not_false_eq_true, reduceCtorEq])
local macro_rules | `(tactic| walk_at "lz") => `(tactic| simp (config := { failIfUnchanged := false, maxSteps := 2000000 }) only [U.e_var, U.e_c, U.e_op, U.e_un, U.e_nil, U.e_cons, U.e_cb, U.e_call, U.e_tup, U.e_lst, U.e_if, U.e_andV, U.e_orV, U.e_notV, U.e_chain, U.e_test, U.e_B, U.e_and, U.e_or, U.e_not, U.e_asg, U.e_name, U.e_seq, U.e_next, U.e_ret, U.e_ifS, U.e_drop, U.e_part, U.e_noPart, U.e_sl, U.e_I0, U.e_I, U.e_exbl, U.e_exint, U.e_exstr, U.e_exsome, U.e_pair, U.e_expair, U.e_m1, U.e_m0, U.e_bm, U.e_bm0, U.e_fld, U.e_sfld, U.e_then, U.e_star, U.e_yes, U.e_gcons, U.e_gnil, U.e_gtup, U.e_gsub, U.e_make, U.e_makeK, U.e_callN, U.e_meth, U.e_kTup, U.e_lcL, U.e_lcT, U.e_lcS, U.e_lcR, U.e_lcR2, U.e_forL, U.e_forT, U.e_forR, U.e_forR2, U.e_forE, U.e_lstRg, L2.wipe, eq_self,
  U.rEqU, U.rNeU, U.rLtU, U.rInU, U.rNinU, U.rIxU, U.rSlU, U.rLenU, U.rInt1, U.rI1, U.rI2, L2.rU, U.rListU, L2.scal,
  L2.start, List.map_cons, List.map_nil, List.length_cons, List.length_nil, List.cons_append, List.nil_append, List.append_nil, List.getElem?_cons_zero, List.getElem?_cons_succ, List.set_cons_zero, List.set_cons_succ, Nat.reduceAdd, Nat.reduceSub, List.reduceReplicate, Nat.zero_add,
  if_true, if_false, Bool.false_eq_true, decide_eq_true_eq, Bool.not_eq_true', decide_eq_false_iff_not, Bool.not_true, Bool.not_false, L2.V.int.injEq, L2.V.str.injEq, L2.V.bl.injEq, L2.V.ref.injEq, exists_eq_left', exists_and_left, true_and, and_true, not_true_eq_false, not_false_eq_true, reduceCtorEq])
local macro_rules | `(tactic| walk_at "lx") => `(tactic| simp (config := { failIfUnchanged := false, maxSteps := 2000000 }) only [U.e_var, U.e_c, U.e_op, U.e_un, U.e_nil, U.e_cons, U.e_cb, U.e_call, U.e_tup, U.e_lst, U.e_if, U.e_andV, U.e_orV, U.e_notV, U.e_chain, U.e_test, U.e_B, U.e_and, U.e_or, U.e_not, U.e_asg, U.e_name, U.e_seq, U.e_next, U.e_ret, U.e_ifS, U.e_drop, U.e_part, U.e_noPart, U.e_sl, U.e_I0, U.e_I, U.e_exbl, U.e_exint, U.e_exstr, U.e_exsome, U.e_pair, U.e_expair, U.e_m1, U.e_m0, U.e_bm, U.e_bm0, U.e_fld, U.e_sfld, U.e_then, U.e_star, U.e_yes, U.e_gcons, U.e_gnil, U.e_gtup, U.e_gsub, U.e_make, U.e_makeK, U.e_callN, U.e_meth, U.e_kTup, U.e_lcL, U.e_lcT, U.e_lcS, U.e_lcR, U.e_lcR2, U.e_forL, U.e_forT, U.e_forR, U.e_forR2, U.e_forE, U.e_lstRg, L2.wipe, eq_self,
  U.rLtU, U.rInU, U.rNinU, U.rSlU, U.rLenU, U.rInt1, U.rI1, U.rI2, L2.rU, U.rListU, L2.scal,
  L2.start, List.map_cons, List.map_nil, List.length_cons, List.length_nil, List.cons_append, List.nil_append, List.append_nil, List.getElem?_cons_zero, List.getElem?_cons_succ, List.set_cons_zero, List.set_cons_succ, Nat.reduceAdd, Nat.reduceSub, List.reduceReplicate, Nat.zero_add,
  if_true, if_false, Bool.false_eq_true, decide_eq_true_eq, Bool.not_eq_true', decide_eq_false_iff_not, Bool.not_true, Bool.not_false, L2.V.int.injEq, L2.V.str.injEq, L2.V.bl.injEq, L2.V.ref.injEq, exists_eq_left', exists_and_left, true_and, and_true, not_true_eq_false, not_false_eq_true, reduceCtorEq])
local macro_rules | `(tactic| walk_at "ly") => `(tactic| simp (config := { failIfUnchanged := false, maxSteps := 2000000 }) only [U.e_var, U.e_c, U.e_op, U.e_un, U.e_nil, U.e_cons, U.e_cb, U.e_call, U.e_tup, U.e_lst, U.e_if, U.e_andV, U.e_orV, U.e_notV, U.e_chain, U.e_test, U.e_B, U.e_and, U.e_or, U.e_not, U.e_asg, U.e_name, U.e_seq, U.e_next, U.e_ret, U.e_ifS, U.e_drop, U.e_part, U.e_noPart, U.e_sl, U.e_I0, U.e_I, U.e_exbl, U.e_exint, U.e_exstr, U.e_exsome, U.e_pair, U.e_expair, U.e_m1, U.e_m0, U.e_bm, U.e_bm0, U.e_fld, U.e_sfld, U.e_then, U.e_star, U.e_yes, U.e_gcons, U.e_gnil, U.e_gtup, U.e_gsub, U.e_make, U.e_makeK, U.e_callN, U.e_meth, U.e_kTup, U.e_lcL, U.e_lcT, U.e_lcS, U.e_lcR, U.e_lcR2, U.e_forL, U.e_forT, U.e_forR, U.e_forR2, U.e_forE, U.e_lstRg, L2.wipe, eq_self,
  U.rSlU, U.rInt1, U.rI1, U.rI2, L2.rU, U.rListU, L2.scal,
  L2.start, List.map_cons, List.map_nil, List.length_cons, List.length_nil, List.cons_append, List.nil_append, List.append_nil, List.getElem?_cons_zero, List.getElem?_cons_succ, List.set_cons_zero, List.set_cons_succ, Nat.reduceAdd, Nat.reduceSub, List.reduceReplicate, Nat.zero_add,
  if_true, if_false, Bool.false_eq_true, decide_eq_true_eq, Bool.not_eq_true', decide_eq_false_iff_not, Bool.not_true, Bool.not_false, L2.V.int.injEq, L2.V.str.injEq, L2.V.bl.injEq, L2.V.ref.injEq, exists_eq_left', exists_and_left, true_and, and_true, not_true_eq_false, not_false_eq_true, reduceCtorEq])
local macro_rules | `(tactic| walk_at "lw") => `(tactic| simp (config := { failIfUnchanged := false, maxSteps := 2000000 }) only [U.e_var, U.e_c, U.e_op, U.e_un, U.e_nil, U.e_cons, U.e_cb, U.e_call, U.e_tup, U.e_lst, U.e_if, U.e_andV, U.e_orV, U.e_notV, U.e_chain, U.e_test, U.e_B, U.e_and, U.e_or, U.e_not, U.e_asg, U.e_name, U.e_seq, U.e_next, U.e_ret, U.e_ifS, U.e_drop, U.e_part, U.e_noPart, U.e_sl, U.e_I0, U.e_I, U.e_exbl, U.e_exint, U.e_exstr, U.e_exsome, U.e_pair, U.e_expair, U.e_m1, U.e_m0, U.e_bm, U.e_bm0, U.e_fld, U.e_sfld, U.e_then, U.e_star, U.e_yes, U.e_gcons, U.e_gnil, U.e_gtup, U.e_gsub, U.e_make, U.e_makeK, U.e_callN, U.e_meth, U.e_lcL, U.e_lcT, U.e_lcS, U.e_lcR, U.e_lcR2, U.e_forL, U.e_forT, U.e_forR, U.e_forR2, U.e_forE, U.e_lstRg, L2.wipe, eq_self,
  U.rInt1, U.rI1, U.rI2, L2.rU, U.rListU, L2.scal,
  L2.start, List.map_cons, List.map_nil, List.length_cons, List.length_nil, List.cons_append, List.nil_append, List.append_nil, List.getElem?_cons_zero, List.getElem?_cons_succ, List.set_cons_zero, List.set_cons_succ, Nat.reduceAdd, Nat.reduceSub, List.reduceReplicate, Nat.zero_add,
  if_true, if_false, Bool.false_eq_true, decide_eq_true_eq, Bool.not_eq_true', decide_eq_false_iff_not, Bool.not_true, Bool.not_false, L2.V.int.injEq, L2.V.str.injEq, L2.V.bl.injEq, L2.V.ref.injEq, exists_eq_left', exists_and_left, true_and, and_true, not_true_eq_false, not_false_eq_true, reduceCtorEq])
local macro_rules | `(tactic| walk_at "vmem") => `(tactic| (first | assumption | exact V.mset_same | exact V.mset_get2 (by assumption) | exact (V.mset_ne (by assumption)).trans (by assumption) | exact (V.mset_ne (by assumption)).trans V.mset_same | exact (V.mset_ne (by assumption)).trans ((V.mset_ne (by assumption)).trans (by assumption))))
local macro_rules | `(tactic| walk_at "vset") => `(tactic| (first | exact V.mset_set | exact V.mset_set2 (by assumption) | exact rfl))
local macro_rules | `(tactic| walk_at "dw") => `(tactic| (repeat (first | (with_reducible (first | refine V.x_seq ?_ | refine V.x_op ?_ | refine V.x_cons ?_ | refine V.x_nil ?_ | refine V.x_c ?_ | refine V.x_tup ?_ | refine V.x_lst ?_ | refine V.x_lstM ?_ | refine V.x_if ?_ | refine V.x_B ?_ | refine V.x_and ?_ | refine V.x_or ?_ | refine V.x_not ?_ | refine V.x_andV ?_ | refine V.x_orV ?_ | refine V.x_notV ?_ | refine V.x_chain ?_ | refine V.x_cb ?_ | refine V.x_then ?_ | refine V.x_star ?_ | refine V.x_part ?_ | refine V.x_noPart ?_ | refine V.x_sl ?_ | refine V.x_fld ?_ | refine V.x_sfld ?_ | refine V.x_neg ?_ | refine V.x_join ?_ | refine V.x_append ?_ | refine V.x_lstRg ?_ | refine V.x_rg1 ?_ | refine V.x_rg2 ?_ | refine V.x_revL ?_ | refine V.x_joinF ?_ | refine V.x_call ?_ | refine V.x_callN ?_ | refine V.x_meth ?_ | refine V.x_makeK ?_ | refine V.x_lc ?_ | refine V.x_yes ?_ | refine V.x_next ?_ | refine V.x_break ?_ | refine V.x_cont ?_ | refine V.x_drop ?_ | refine V.x_ret ?_ | refine V.x_retN ?_ | refine V.x_ifS ?_ | refine V.x_asg ?_ | refine V.x_gN ?_ | refine V.x_par ?_ | refine V.x_for ?_ | refine V.x_gs1 ?_ | refine V.x_gs0 ?_ | refine V.x_iL ?_ | refine V.x_iT ?_ | refine V.x_iS ?_ | refine V.x_iR1 ?_ | refine V.x_iR2 ?_ | refine V.x_diL ?_ | refine V.x_bl ?_ | refine V.x_int ?_ | refine V.x_int2 ?_ | refine V.x_str0 ?_ | refine V.x_two ?_ | refine V.x_tr ?_ | refine V.x_addI ?_ | refine V.x_I1 ?_ | refine V.x_ltI ?_ | refine V.x_eqI ?_ | refine V.x_eqS ?_ | refine V.x_neI ?_ | refine V.x_neS ?_ | refine V.x_isN ?_ | refine V.x_notN ?_ | refine V.x_isB ?_ | refine V.x_notB ?_ | refine V.x_lenT ?_ | refine V.x_lenL ?_ | refine V.x_listL ?_ | refine V.x_listT ?_ | refine V.x_tupL ?_ | refine V.x_tupT ?_ | refine V.x_int1 ?_ | refine V.x_int21 ?_ | refine V.x_slT ?_ | refine V.x_slL ?_ | refine V.x_all ?_ | refine V.x_tfE ?_ | refine V.x_tfF ?_ | refine V.x_tupE ?_ | refine V.x_strE ?_ | refine V.x_r1 ?_ | refine V.x_r2 ?_ | refine V.x_true ?_ | refine V.x_false ?_ | refine V.x_nfalse ?_ | refine V.x_ntrue ?_ | refine V.x_iET ?_ | refine V.x_iE ?_ | refine V.x_iZ ?_ | refine V.x_tf1 ?_ | refine V.x_tf1F ?_ | refine V.x_tup1 ?_ | refine V.x_lst1 ?_ | refine V.x_lst2 ?_ | refine V.x_starT ?_ | refine V.x_starF ?_ | refine V.x_starL ?_ | refine V.x_eqIN ?_ | refine V.x_eqNI ?_ | refine V.x_eqSN ?_ | refine V.x_eqNS ?_ | refine V.x_eqNN ?_ | refine V.x_eqBB ?_ | refine V.x_neIN ?_ | refine V.x_neNI ?_ | refine V.x_neSN ?_ | refine V.x_neNS ?_ | refine V.x_neNN ?_ | refine V.x_neBB ?_ | refine V.x_iZT ?_ | refine V.x_tup2 ?_ | refine V.x_par3 ?_ | refine V.x_three ?_ | refine V.x_tupF ?_ | refine V.x_tfL ?_ | refine V.x_lstRgM ?_ | refine V.x_callX ?_ | refine V.x_callNX ?_ | refine V.x_raiseX ?_ | refine V.x_dnewE ?_)) | ((with_reducible refine' V.x_var ?_ ?_); rotate_left; exact rfl) | ((with_reducible refine' V.x_aug ?_ ?_); rotate_left; exact rfl) | ((with_reducible refine' V.x_lamE ?_ ?_); assumption) | ((with_reducible refine' V.x_gT ?_ ?_); exact rfl) | ((with_reducible refine' And.intro (a := _ ≤ PySem.sizeLine) ?_ ?_); exact Nat.le_of_ble_eq_true rfl) | ((with_reducible refine' V.x_ixT ?_ ?_); rotate_left; exact rfl) | ((with_reducible refine' V.x_ixL ?_ ?_); rotate_left; exact rfl) | ((with_reducible refine' V.x_iteT ?_ ?_); (first | omega | (simp only [List.length_cons, List.length_nil, List.length_map, List.length_append]; omega))) | ((with_reducible refine' V.x_iteF ?_ ?_); (first | omega | (simp only [List.length_cons, List.length_nil, List.length_map, List.length_append]; omega))) | ((with_reducible refine' V.x_itenT ?_ ?_); (first | omega | (simp only [List.length_cons, List.length_nil, List.length_map, List.length_append]; omega))) | ((with_reducible refine' V.x_itenF ?_ ?_); (first | omega | (simp only [List.length_cons, List.length_nil, List.length_map, List.length_append]; omega))) | ((with_reducible refine' V.x_sfldQ ?_ ?_ ?_ ?_); assumption; assumption; exact Nat.le_of_ble_eq_true rfl) | ((with_reducible refine' V.x_sfldP ?_ ?_ ?_ ?_ ?_); rotate_left 2; assumption; assumption; assumption; exact Nat.le_of_ble_eq_true rfl) | ((with_reducible refine' V.x_fldI 0 ?_ ?_ ?_ ?_ ?_ ?_); rotate_left; exact rfl; exact rfl; assumption; assumption; decide +kernel) | ((with_reducible refine' V.x_fldI 1 ?_ ?_ ?_ ?_ ?_ ?_); rotate_left; exact rfl; exact rfl; assumption; assumption; decide +kernel) | ((with_reducible refine' V.x_fldI 2 ?_ ?_ ?_ ?_ ?_ ?_); rotate_left; exact rfl; exact rfl; assumption; assumption; decide +kernel) | ((with_reducible refine' V.x_fldI 3 ?_ ?_ ?_ ?_ ?_ ?_); rotate_left; exact rfl; exact rfl; assumption; assumption; decide +kernel) | ((with_reducible refine' V.x_fldI 4 ?_ ?_ ?_ ?_ ?_ ?_); rotate_left; exact rfl; exact rfl; assumption; assumption; decide +kernel) | ((with_reducible refine' V.x_fldI 5 ?_ ?_ ?_ ?_ ?_ ?_); rotate_left; exact rfl; exact rfl; assumption; assumption; decide +kernel) | ((with_reducible refine' V.x_fldI 6 ?_ ?_ ?_ ?_ ?_ ?_); rotate_left; exact rfl; exact rfl; assumption; assumption; decide +kernel) | ((with_reducible refine' V.x_fldQ 0 ?_ ?_ ?_ ?_ ?_ ?_ ?_); rotate_left 3; assumption; exact rfl; exact rfl; assumption; assumption; (first | decide +kernel | (simp only [List.map_cons, List.map_nil]; decide +kernel))) | ((with_reducible refine' V.x_fldQ 1 ?_ ?_ ?_ ?_ ?_ ?_ ?_); rotate_left 3; assumption; exact rfl; exact rfl; assumption; assumption; (first | decide +kernel | (simp only [List.map_cons, List.map_nil]; decide +kernel))) | ((with_reducible refine' V.x_fldQ 2 ?_ ?_ ?_ ?_ ?_ ?_ ?_); rotate_left 3; assumption; exact rfl; exact rfl; assumption; assumption; (first | decide +kernel | (simp only [List.map_cons, List.map_nil]; decide +kernel))) | ((with_reducible refine' V.x_fldQ 3 ?_ ?_ ?_ ?_ ?_ ?_ ?_); rotate_left 3; assumption; exact rfl; exact rfl; assumption; assumption; (first | decide +kernel | (simp only [List.map_cons, List.map_nil]; decide +kernel))) | ((with_reducible refine' V.x_fldQ 4 ?_ ?_ ?_ ?_ ?_ ?_ ?_); rotate_left 3; assumption; exact rfl; exact rfl; assumption; assumption; (first | decide +kernel | (simp only [List.map_cons, List.map_nil]; decide +kernel))) | ((with_reducible refine' V.x_fldQ 5 ?_ ?_ ?_ ?_ ?_ ?_ ?_); rotate_left 3; assumption; exact rfl; exact rfl; assumption; assumption; (first | decide +kernel | (simp only [List.map_cons, List.map_nil]; decide +kernel))) | ((with_reducible refine' V.x_fldQ 6 ?_ ?_ ?_ ?_ ?_ ?_ ?_); rotate_left 3; assumption; exact rfl; exact rfl; assumption; assumption; (first | decide +kernel | (simp only [List.map_cons, List.map_nil]; decide +kernel))))))
local macro_rules | `(tactic| walk_at "dy") => `(tactic| (repeat (first | (with_reducible (first | refine V.x_seq ?_ | refine V.x_op ?_ | refine V.x_cons ?_ | refine V.x_nil ?_ | refine V.x_c ?_ | refine V.x_tup ?_ | refine V.x_lst ?_ | refine V.x_lstM ?_ | refine V.x_if ?_ | refine V.x_B ?_ | refine V.x_and ?_ | refine V.x_or ?_ | refine V.x_not ?_ | refine V.x_andV ?_ | refine V.x_orV ?_ | refine V.x_notV ?_ | refine V.x_chain ?_ | refine V.x_cb ?_ | refine V.x_then ?_ | refine V.x_star ?_ | refine V.x_part ?_ | refine V.x_noPart ?_ | refine V.x_sl ?_ | refine V.x_fld ?_ | refine V.x_sfld ?_ | refine V.x_neg ?_ | refine V.x_join ?_ | refine V.x_append ?_ | refine V.x_lstRg ?_ | refine V.x_rg1 ?_ | refine V.x_rg2 ?_ | refine V.x_revL ?_ | refine V.x_joinF ?_ | refine V.x_call ?_ | refine V.x_callN ?_ | refine V.x_meth ?_ | refine V.x_makeK ?_ | refine V.x_lc ?_ | refine V.x_yes ?_ | refine V.x_next ?_ | refine V.x_break ?_ | refine V.x_cont ?_ | refine V.x_drop ?_ | refine V.x_ret ?_ | refine V.x_retN ?_ | refine V.x_ifS ?_ | refine V.x_asg ?_ | refine V.x_for ?_ | refine V.x_gs1 ?_ | refine V.x_gs0 ?_ | refine V.x_iL ?_ | refine V.x_iT ?_ | refine V.x_iS ?_ | refine V.x_iR1 ?_ | refine V.x_iR2 ?_ | refine V.x_diL ?_ | refine V.x_bl ?_ | refine V.x_int ?_ | refine V.x_int2 ?_ | refine V.x_str0 ?_ | refine V.x_two ?_ | refine V.x_tr ?_ | refine V.x_addI ?_ | refine V.x_I1 ?_ | refine V.x_ltI ?_ | refine V.x_eqI ?_ | refine V.x_eqS ?_ | refine V.x_neI ?_ | refine V.x_neS ?_ | refine V.x_isN ?_ | refine V.x_notN ?_ | refine V.x_isB ?_ | refine V.x_notB ?_ | refine V.x_lenT ?_ | refine V.x_lenL ?_ | refine V.x_listL ?_ | refine V.x_listT ?_ | refine V.x_tupL ?_ | refine V.x_tupT ?_ | refine V.x_int1 ?_ | refine V.x_int21 ?_ | refine V.x_slT ?_ | refine V.x_slL ?_ | refine V.x_all ?_ | refine V.x_tfE ?_ | refine V.x_tfF ?_ | refine V.x_tupE ?_ | refine V.x_strE ?_ | refine V.x_r1 ?_ | refine V.x_r2 ?_ | refine V.x_true ?_ | refine V.x_false ?_ | refine V.x_nfalse ?_ | refine V.x_ntrue ?_ | refine V.x_iET ?_ | refine V.x_iE ?_ | refine V.x_iZ ?_ | refine V.x_tf1 ?_ | refine V.x_tf1F ?_ | refine V.x_tup1 ?_ | refine V.x_lst1 ?_ | refine V.x_lst2 ?_ | refine V.x_starT ?_ | refine V.x_starF ?_ | refine V.x_starL ?_ | refine V.x_eqIN ?_ | refine V.x_eqNI ?_ | refine V.x_eqSN ?_ | refine V.x_eqNS ?_ | refine V.x_eqNN ?_ | refine V.x_eqBB ?_ | refine V.x_neIN ?_ | refine V.x_neNI ?_ | refine V.x_neSN ?_ | refine V.x_neNS ?_ | refine V.x_neNN ?_ | refine V.x_neBB ?_ | refine V.x_iZT ?_ | refine V.x_tup2 ?_ | refine V.x_three ?_ | refine V.x_tupF ?_ | refine V.x_tfL ?_ | refine V.x_lstRgM ?_ | refine V.x_callX ?_ | refine V.x_callNX ?_ | refine V.x_raiseX ?_ | refine V.x_dnewE ?_)) | ((with_reducible refine V.x_gN ?_); (try dsimp only [List.set_cons_zero, List.set_cons_succ])) | ((with_reducible refine V.x_par ?_); (try dsimp only [List.set_cons_zero, List.set_cons_succ])) | ((with_reducible refine V.x_par3 ?_); (try dsimp only [List.set_cons_zero, List.set_cons_succ])) | ((with_reducible refine' V.x_var ?_ ?_); rotate_left; exact rfl) | ((with_reducible refine' V.x_aug ?_ ?_); rotate_left; exact rfl; (try dsimp only [List.set_cons_zero, List.set_cons_succ])) | ((with_reducible refine' V.x_lamE ?_ ?_); assumption) | ((with_reducible refine' V.x_gT ?_ ?_); exact rfl) | ((with_reducible refine' And.intro (a := _ ≤ PySem.sizeLine) ?_ ?_); exact Nat.le_of_ble_eq_true rfl) | ((with_reducible refine' V.x_ixT ?_ ?_); rotate_left; exact rfl) | ((with_reducible refine' V.x_ixL ?_ ?_); rotate_left; exact rfl) | ((with_reducible refine' V.x_iteT ?_ ?_); (first | omega | (simp only [List.length_cons, List.length_nil, List.length_map, List.length_append]; omega))) | ((with_reducible refine' V.x_iteF ?_ ?_); (first | omega | (simp only [List.length_cons, List.length_nil, List.length_map, List.length_append]; omega))) | ((with_reducible refine' V.x_itenT ?_ ?_); (first | omega | (simp only [List.length_cons, List.length_nil, List.length_map, List.length_append]; omega))) | ((with_reducible refine' V.x_itenF ?_ ?_); (first | omega | (simp only [List.length_cons, List.length_nil, List.length_map, List.length_append]; omega))) | ((with_reducible refine' V.x_sfldQ ?_ ?_ ?_ ?_); assumption; assumption; exact Nat.le_of_ble_eq_true rfl) | ((with_reducible refine' V.x_sfldP ?_ ?_ ?_ ?_ ?_); rotate_left 2; assumption; assumption; assumption; exact Nat.le_of_ble_eq_true rfl) | ((with_reducible refine' V.x_fldI 0 ?_ ?_ ?_ ?_ ?_ ?_); rotate_left; exact rfl; exact rfl; assumption; assumption; decide +kernel) | ((with_reducible refine' V.x_fldI 1 ?_ ?_ ?_ ?_ ?_ ?_); rotate_left; exact rfl; exact rfl; assumption; assumption; decide +kernel) | ((with_reducible refine' V.x_fldI 2 ?_ ?_ ?_ ?_ ?_ ?_); rotate_left; exact rfl; exact rfl; assumption; assumption; decide +kernel) | ((with_reducible refine' V.x_fldI 3 ?_ ?_ ?_ ?_ ?_ ?_); rotate_left; exact rfl; exact rfl; assumption; assumption; decide +kernel) | ((with_reducible refine' V.x_fldI 4 ?_ ?_ ?_ ?_ ?_ ?_); rotate_left; exact rfl; exact rfl; assumption; assumption; decide +kernel) | ((with_reducible refine' V.x_fldI 5 ?_ ?_ ?_ ?_ ?_ ?_); rotate_left; exact rfl; exact rfl; assumption; assumption; decide +kernel) | ((with_reducible refine' V.x_fldI 6 ?_ ?_ ?_ ?_ ?_ ?_); rotate_left; exact rfl; exact rfl; assumption; assumption; decide +kernel) | ((with_reducible refine' V.x_fldQ 0 ?_ ?_ ?_ ?_ ?_ ?_ ?_); rotate_left 3; assumption; exact rfl; exact rfl; assumption; assumption; (first | decide +kernel | (simp only [List.map_cons, List.map_nil]; decide +kernel))) | ((with_reducible refine' V.x_fldQ 1 ?_ ?_ ?_ ?_ ?_ ?_ ?_); rotate_left 3; assumption; exact rfl; exact rfl; assumption; assumption; (first | decide +kernel | (simp only [List.map_cons, List.map_nil]; decide +kernel))) | ((with_reducible refine' V.x_fldQ 2 ?_ ?_ ?_ ?_ ?_ ?_ ?_); rotate_left 3; assumption; exact rfl; exact rfl; assumption; assumption; (first | decide +kernel | (simp only [List.map_cons, List.map_nil]; decide +kernel))) | ((with_reducible refine' V.x_fldQ 3 ?_ ?_ ?_ ?_ ?_ ?_ ?_); rotate_left 3; assumption; exact rfl; exact rfl; assumption; assumption; (first | decide +kernel | (simp only [List.map_cons, List.map_nil]; decide +kernel))) | ((with_reducible refine' V.x_fldQ 4 ?_ ?_ ?_ ?_ ?_ ?_ ?_); rotate_left 3; assumption; exact rfl; exact rfl; assumption; assumption; (first | decide +kernel | (simp only [List.map_cons, List.map_nil]; decide +kernel))) | ((with_reducible refine' V.x_fldQ 5 ?_ ?_ ?_ ?_ ?_ ?_ ?_); rotate_left 3; assumption; exact rfl; exact rfl; assumption; assumption; (first | decide +kernel | (simp only [List.map_cons, List.map_nil]; decide +kernel))) | ((with_reducible refine' V.x_fldQ 6 ?_ ?_ ?_ ?_ ?_ ?_ ?_); rotate_left 3; assumption; exact rfl; exact rfl; assumption; assumption; (first | decide +kernel | (simp only [List.map_cons, List.map_nil]; decide +kernel))) | (with_reducible (first | refine V.x_opX ?_ | refine V.x_split ?_)) | ((with_reducible apply V.x_callLX); exact rfl; (with_reducible exact rfl)) | ((with_reducible apply V.x_callLN); exact rfl; (with_reducible exact rfl)) | ((with_reducible refine' V.x_orL ?_); (with_reducible apply V.x_callLX); exact rfl; (with_reducible exact rfl)) | ((with_reducible refine' V.x_orL ?_); (with_reducible apply V.x_callLN); exact rfl; (with_reducible exact rfl)) | (with_reducible refine' V.x_orR ?_) | ((with_reducible apply V.x_ap1); walk_at "vmem") | ((with_reducible apply V.x_ap2); walk_at "vmem"; (simp [V.sizeLineN]); (first | rw [V.mset_set] | rw [V.mset_set2 (by assumption)] | skip)))))
local macro_rules | `(tactic| walk_at "dx") => `(tactic| (repeat (first | (with_reducible (first | refine V.x_seq ?_ | refine V.x_op ?_ | refine V.x_cons ?_ | refine V.x_nil ?_ | refine V.x_c ?_ | refine V.x_tup ?_ | refine V.x_lst ?_ | refine V.x_lstM ?_ | refine V.x_if ?_ | refine V.x_B ?_ | refine V.x_and ?_ | refine V.x_or ?_ | refine V.x_not ?_ | refine V.x_andV ?_ | refine V.x_orV ?_ | refine V.x_notV ?_ | refine V.x_chain ?_ | refine V.x_cb ?_ | refine V.x_then ?_ | refine V.x_star ?_ | refine V.x_part ?_ | refine V.x_noPart ?_ | refine V.x_sl ?_ | refine V.x_fld ?_ | refine V.x_sfld ?_ | refine V.x_neg ?_ | refine V.x_join ?_ | refine V.x_append ?_ | refine V.x_lstRg ?_ | refine V.x_rg1 ?_ | refine V.x_rg2 ?_ | refine V.x_revL ?_ | refine V.x_joinF ?_ | refine V.x_call ?_ | refine V.x_callN ?_ | refine V.x_meth ?_ | refine V.x_makeK ?_ | refine V.x_lc ?_ | refine V.x_yes ?_ | refine V.x_next ?_ | refine V.x_break ?_ | refine V.x_cont ?_ | refine V.x_drop ?_ | refine V.x_ret ?_ | refine V.x_retN ?_ | refine V.x_ifS ?_ | refine V.x_asg ?_ | refine V.x_for ?_ | refine V.x_gs1 ?_ | refine V.x_gs0 ?_ | refine V.x_iL ?_ | refine V.x_iT ?_ | refine V.x_iS ?_ | refine V.x_iR1 ?_ | refine V.x_iR2 ?_ | refine V.x_diL ?_ | refine V.x_bl ?_ | refine V.x_int ?_ | refine V.x_int2 ?_ | refine V.x_str0 ?_ | refine V.x_two ?_ | refine V.x_tr ?_ | refine V.x_addI ?_ | refine V.x_I1 ?_ | refine V.x_ltI ?_ | refine V.x_eqI ?_ | refine V.x_eqS ?_ | refine V.x_neI ?_ | refine V.x_neS ?_ | refine V.x_isN ?_ | refine V.x_notN ?_ | refine V.x_isB ?_ | refine V.x_notB ?_ | refine V.x_lenT ?_ | refine V.x_lenL ?_ | refine V.x_listL ?_ | refine V.x_listT ?_ | refine V.x_tupL ?_ | refine V.x_tupT ?_ | refine V.x_int1 ?_ | refine V.x_int21 ?_ | refine V.x_slT ?_ | refine V.x_slL ?_ | refine V.x_all ?_ | refine V.x_tfE ?_ | refine V.x_tfF ?_ | refine V.x_tupE ?_ | refine V.x_strE ?_ | refine V.x_r1 ?_ | refine V.x_r2 ?_ | refine V.x_true ?_ | refine V.x_false ?_ | refine V.x_nfalse ?_ | refine V.x_ntrue ?_ | refine V.x_iET ?_ | refine V.x_iE ?_ | refine V.x_iZ ?_ | refine V.x_tf1 ?_ | refine V.x_tf1F ?_ | refine V.x_tup1 ?_ | refine V.x_lst1 ?_ | refine V.x_lst2 ?_ | refine V.x_starT ?_ | refine V.x_starF ?_ | refine V.x_starL ?_ | refine V.x_eqIN ?_ | refine V.x_eqNI ?_ | refine V.x_eqSN ?_ | refine V.x_eqNS ?_ | refine V.x_eqNN ?_ | refine V.x_eqBB ?_ | refine V.x_neIN ?_ | refine V.x_neNI ?_ | refine V.x_neSN ?_ | refine V.x_neNS ?_ | refine V.x_neNN ?_ | refine V.x_neBB ?_ | refine V.x_iZT ?_ | refine V.x_tup2 ?_ | refine V.x_three ?_ | refine V.x_tupF ?_ | refine V.x_tfL ?_ | refine V.x_lstRgM ?_ | refine V.x_callX ?_ | refine V.x_callNX ?_ | refine V.x_raiseX ?_ | refine V.x_dnewE ?_)) | ((with_reducible refine V.x_gN ?_); (try dsimp only [List.set_cons_zero, List.set_cons_succ])) | ((with_reducible refine V.x_par ?_); (try dsimp only [List.set_cons_zero, List.set_cons_succ])) | ((with_reducible refine V.x_par3 ?_); (try dsimp only [List.set_cons_zero, List.set_cons_succ])) | ((with_reducible refine' V.x_var ?_ ?_); rotate_left; exact rfl) | ((with_reducible refine' V.x_aug ?_ ?_); rotate_left; exact rfl; (try dsimp only [List.set_cons_zero, List.set_cons_succ])) | ((with_reducible refine' V.x_lamE ?_ ?_); assumption) | ((with_reducible refine' V.x_gT ?_ ?_); exact rfl) | ((with_reducible refine' And.intro (a := _ ≤ PySem.sizeLine) ?_ ?_); exact Nat.le_of_ble_eq_true rfl) | ((with_reducible refine' V.x_ixT ?_ ?_); rotate_left; exact rfl) | ((with_reducible refine' V.x_ixL ?_ ?_); rotate_left; exact rfl) | ((with_reducible refine' V.x_iteT ?_ ?_); (first | omega | (simp only [List.length_cons, List.length_nil, List.length_map, List.length_append]; omega))) | ((with_reducible refine' V.x_iteF ?_ ?_); (first | omega | (simp only [List.length_cons, List.length_nil, List.length_map, List.length_append]; omega))) | ((with_reducible refine' V.x_itenT ?_ ?_); (first | omega | (simp only [List.length_cons, List.length_nil, List.length_map, List.length_append]; omega))) | ((with_reducible refine' V.x_itenF ?_ ?_); (first | omega | (simp only [List.length_cons, List.length_nil, List.length_map, List.length_append]; omega))) | ((with_reducible refine' V.x_sfldQ ?_ ?_ ?_ ?_); assumption; assumption; exact Nat.le_of_ble_eq_true rfl) | ((with_reducible refine' V.x_sfldP ?_ ?_ ?_ ?_ ?_); rotate_left 2; assumption; assumption; assumption; exact Nat.le_of_ble_eq_true rfl) | ((with_reducible refine' V.x_fldI 0 ?_ ?_ ?_ ?_ ?_ ?_); rotate_left; exact rfl; exact rfl; assumption; assumption; decide +kernel) | ((with_reducible refine' V.x_fldI 1 ?_ ?_ ?_ ?_ ?_ ?_); rotate_left; exact rfl; exact rfl; assumption; assumption; decide +kernel) | ((with_reducible refine' V.x_fldI 2 ?_ ?_ ?_ ?_ ?_ ?_); rotate_left; exact rfl; exact rfl; assumption; assumption; decide +kernel) | ((with_reducible refine' V.x_fldI 3 ?_ ?_ ?_ ?_ ?_ ?_); rotate_left; exact rfl; exact rfl; assumption; assumption; decide +kernel) | ((with_reducible refine' V.x_fldI 4 ?_ ?_ ?_ ?_ ?_ ?_); rotate_left; exact rfl; exact rfl; assumption; assumption; decide +kernel) | ((with_reducible refine' V.x_fldI 5 ?_ ?_ ?_ ?_ ?_ ?_); rotate_left; exact rfl; exact rfl; assumption; assumption; decide +kernel) | ((with_reducible refine' V.x_fldI 6 ?_ ?_ ?_ ?_ ?_ ?_); rotate_left; exact rfl; exact rfl; assumption; assumption; decide +kernel) | ((with_reducible refine' V.x_fldQ 0 ?_ ?_ ?_ ?_ ?_ ?_ ?_); rotate_left 3; assumption; exact rfl; exact rfl; assumption; assumption; (first | decide +kernel | (simp only [List.map_cons, List.map_nil]; decide +kernel))) | ((with_reducible refine' V.x_fldQ 1 ?_ ?_ ?_ ?_ ?_ ?_ ?_); rotate_left 3; assumption; exact rfl; exact rfl; assumption; assumption; (first | decide +kernel | (simp only [List.map_cons, List.map_nil]; decide +kernel))) | ((with_reducible refine' V.x_fldQ 2 ?_ ?_ ?_ ?_ ?_ ?_ ?_); rotate_left 3; assumption; exact rfl; exact rfl; assumption; assumption; (first | decide +kernel | (simp only [List.map_cons, List.map_nil]; decide +kernel))) | ((with_reducible refine' V.x_fldQ 3 ?_ ?_ ?_ ?_ ?_ ?_ ?_); rotate_left 3; assumption; exact rfl; exact rfl; assumption; assumption; (first | decide +kernel | (simp only [List.map_cons, List.map_nil]; decide +kernel))) | ((with_reducible refine' V.x_fldQ 4 ?_ ?_ ?_ ?_ ?_ ?_ ?_); rotate_left 3; assumption; exact rfl; exact rfl; assumption; assumption; (first | decide +kernel | (simp only [List.map_cons, List.map_nil]; decide +kernel))) | ((with_reducible refine' V.x_fldQ 5 ?_ ?_ ?_ ?_ ?_ ?_ ?_); rotate_left 3; assumption; exact rfl; exact rfl; assumption; assumption; (first | decide +kernel | (simp only [List.map_cons, List.map_nil]; decide +kernel))) | ((with_reducible refine' V.x_fldQ 6 ?_ ?_ ?_ ?_ ?_ ?_ ?_); rotate_left 3; assumption; exact rfl; exact rfl; assumption; assumption; (first | decide +kernel | (simp only [List.map_cons, List.map_nil]; decide +kernel))) | (with_reducible (first | refine V.x_opX ?_ | refine V.x_loopC ?_ | refine V.x_loopN ?_ | refine V.x_split ?_)) | ((with_reducible apply V.x_callLX); exact rfl; (with_reducible exact rfl)) | ((with_reducible apply V.x_callLN); exact rfl; (with_reducible exact rfl)) | ((with_reducible refine' V.x_orL ?_); (with_reducible apply V.x_callLX); exact rfl; (with_reducible exact rfl)) | ((with_reducible refine' V.x_orL ?_); (with_reducible apply V.x_callLN); exact rfl; (with_reducible exact rfl)) | (with_reducible refine' V.x_orR ?_) | ((with_reducible apply V.x_ap1); walk_at "vmem") | ((with_reducible apply V.x_ap2); walk_at "vmem"; (simp [V.sizeLineN]); (first | rw [V.mset_set] | rw [V.mset_set2 (by assumption)] | skip)))))
namespace G
open PySem PySem.Spec PyProof.Rows L2 U
section
variable {P : Program} {w : World} {K : PySem.W.Frag} {mg : Str → Option Value} {base : Heap}
theorem ok1__law_ladle (T : Tx K mg) : FnOk P w K mg base L2.CX0 lv__law_ladle T.f__law_ladle T.d__law_ladle p__law_ladle spDraw1 := by
  refine T.F__law_ladle.ok sc__law_ladle (fun vs H Q E h => ?_) (fun cdv A outer s H vs Q E hr h => ?_)
  · obtain ⟨p, n, a, b, c, rfl, _⟩ := h
    rfl
  · obtain ⟨p, n, a, b, c, rfl, hp, ⟨hn, hn2⟩, q⟩ := h
    refine ⟨_, (pss_cons (ps_asg (pe_op op_addU (pe_ix (ix_K (K := K) rfl) (pv 0) pe_int (fun _ _ => rfl)) pe_int) (pg_sub (pv 0) pe_int set_list))
        (pss_cons (ps_if (pt_cmpR op_gt (pe_ix (ix_K (K := K) rfl) (pv 0) pe_int (fun _ _ => rfl)) pe_int (nomark _)) (pss_cons (ps_asg (pe_callB call_divmod (by rfl) T.n_divmod (by decide +kernel) (pa_cons (pe_callTy call_intU (by rfl) T.n_int (by decide +kernel) (pa_cons (pe_ix (ix_K (K := K) rfl) (pv 0) pe_int (fun _ _ => rfl)) pa_nil)) (pa_cons (pv 1) pa_nil))) (pg_tupK (K := K) (n := 2) rfl rfl (pgs_cons (pg_sub (pv 0) pe_int set_list) (pgs_cons (pg_name (i := 2) sc__law_ladle.nd rfl (by first | exact Or.inl rfl | exact Or.inr rfl)) pgs_nil))))
        (pss_one (ps_ret (pv 2)))) pss_nil)
        (pss_cons (ps_asg (pe_op op_mod (pe_callTy call_intU (by rfl) T.n_int (by decide +kernel) (pa_cons (pe_op op_addU (pe_op op_addU (pe_op op_mul (pe_ix (ix_K (K := K) rfl) (pv 0) pe_int (fun _ _ => rfl)) pe_int) (pe_op op_mul (pe_ix (ix_K (K := K) rfl) (pv 0) pe_int (fun _ _ => rfl)) pe_int)) (pe_op op_mul (pe_op op_fdiv (pe_ix (ix_K (K := K) rfl) (pv 0) pe_int (fun _ _ => rfl)) pe_int) pe_int)) pa_nil)) pe_int) (pg_sub (pv 0) pe_int set_list))
        (pss_one (ps_ret (pe_op op_mod (pe_callTy call_intU (by rfl) T.n_int (by decide +kernel) (pa_cons (pe_op op_fdiv (pe_ix (ix_K (K := K) rfl) (pv 0) pe_int (fun _ _ => rfl)) pe_int) pa_nil)) (pv 1))))))), ?_⟩
    walk_at "go"
    refine ⟨_, .inl (SqL.of hp), _, rfl, ?_⟩
    walk_at "go"
    refine ⟨p, _, 1, 1, rfl, rfl, hp, rfl, ?_⟩
    have e1 : ([V.int a, V.int b, V.int c] : List V).set 1 (V.int (b + 3)) = [.int a, .int (b + 3), .int c] := rfl
    rw [e1]
    refine ⟨_, .inl (SqL.of upd_same), _, rfl, ?_⟩
    walk_at "go"
    refine ite2 (fun ca => ?_) (fun ca => ?_)
    · refine ⟨_, .inl (SqL.of upd_same), _, rfl, ?_⟩
      walk_at "go"
      refine ⟨a, n, rfl, ⟨hn, hn2⟩, fun t ht => ?_⟩
      have npt : p ≠ t := ne_of_none upd_same ht
      refine ⟨_, SqT.of upd_same, rfl, ?_⟩
      walk_at "go"
      refine ⟨p, _, 0, 0, rfl, rfl, (by rw [upd_ne npt]; exact upd_same), rfl, ?_⟩
      rw [upd_ne npt.symm] at ht
      refine q _ _ _ _ _ ?_ upd_same (Int.emod_nonneg _ (by omega)) (Int.emod_lt_of_pos _ hn)
      refine Ext.mut (Ext.new (Ext.mut (Ext.refl _) rfl) ?_) rfl
      rw [upd_ne npt.symm]
      exact ht
    · refine ⟨_, .inl (SqL.of upd_same), _, rfl, ?_⟩
      walk_at "go"
      refine ⟨.inr ⟨by decide, by decide⟩, _, .inl (SqL.of upd_same), _, rfl, ?_⟩
      walk_at "go"
      refine ⟨.inr ⟨by decide, by decide⟩, _, .inl (SqL.of upd_same), _, rfl, ?_⟩
      walk_at "go"
      refine ⟨⟨by decide, by decide⟩, .inr ⟨by decide, by decide⟩, by decide, ?_⟩
      refine ⟨p, _, 2, 2, rfl, rfl, upd_same, rfl, ?_⟩
      refine ⟨_, .inl (SqL.of upd_same), _, rfl, ?_⟩
      walk_at "go"
      refine ⟨⟨by decide, by decide⟩, hn, ?_⟩
      refine q _ _ _ _ _ ?_ upd_same (Int.emod_nonneg _ (by omega)) (Int.emod_lt_of_pos _ hn)
      exact Ext.mut (Ext.mut (Ext.refl _) rfl) rfl
theorem ok__law_ladle (T : Tx K mg) : FnOk P w K mg base L2.CX0 lv__law_ladle T.f__law_ladle T.d__law_ladle p__law_ladle spDraw := fn_draw (ok1__law_ladle T) rfl
theorem ok1__law_pot (T : Tx K mg) : FnOk P w K mg base L2.CX0 lv__law_pot T.f__law_pot T.d__law_pot p__law_pot (spPot1 K) := by
  refine T.F__law_pot.ok sc__law_pot (fun vs H Q E h => ?_) (fun cdv A outer s H vs Q E hr h => ?_)
  · obtain ⟨a, ns, i, rfl, _⟩ := h
    rfl
  · obtain ⟨a, ns, i, rfl, hS, hn, hi, q⟩ := h
    refine ⟨_, (pss_cons (ps_set (i := 2) sc__law_pot.nd rfl (by first | exact Or.inl rfl | exact Or.inr rfl) (pe_ifExp (pt_cmpR op_ltU (pv 1) (pe_callB (call_lenK (K := K) rfl) (by rfl) T.n_len (by decide +kernel) (pa_cons (pv 0) pa_nil)) (nomark _)) (pe_callTy call_intU (by rfl) T.n_int (by decide +kernel) (pa_cons (pe_ix (ix_K (K := K) rfl) (pv 0) (pv 1) (fun _ _ => rfl)) pa_nil)) (pe_op op_addU (pe_op op_mul pe_int (pv 1)) pe_int)))
        (pss_cons (ps_set (i := 3) sc__law_pot.nd rfl (by first | exact Or.inl rfl | exact Or.inr rfl) (pe_op op_addU pe_int (pe_op op_mul pe_int (pv 1))))
        (pss_cons (ps_for PassesOwn.never rfl (pi_listK (K := K) rfl (pe_slice (sl_K (K := K) rfl) (pv 0) po_none (po_some pe_int))) (pg_name (i := 4) sc__law_pot.nd rfl (by first | exact Or.inl rfl | exact Or.inr rfl)) (pss_one (ps_set (i := 3) sc__law_pot.nd rfl (by first | exact Or.inl rfl | exact Or.inr rfl) (pe_op op_mod (pe_callTy call_intU (by rfl) T.n_int (by decide +kernel) (pa_cons (pe_op op_addU (pe_op op_mul (pv 3) pe_int) (pe_op op_mod (pe_callTy call_intU (by rfl) T.n_int (by decide +kernel) (pa_cons (pv 4) pa_nil)) pe_int)) pa_nil)) pe_int))))
        (pss_one (ps_ret (pe_lst (pa_cons (pe_ifExp (PW.pt (pw_or (pt_cmpR op_ltU (pv 2) pe_int (nomark _)) (pw_or1 (pt_cmpR op_ge (pv 2) (pe_op op_pow pe_int pe_int) (nomark _))))) (pe_callB call_absU (by rfl) T.n_abs (by decide +kernel) (pa_cons (pv 2) pa_nil)) pe_int) (pa_cons pe_int (pa_cons (pe_op op_mod (pe_callTy call_intU (by rfl) T.n_int (by decide +kernel) (pa_cons (pe_op op_addU (pe_op op_mul (pv 3) pe_int) (pe_op op_mod (pv 2) pe_int)) pa_nil)) pe_int) pa_nil))))))))), ?_⟩
    walk_at "go"
    refine ⟨_, .inl hS, ?_⟩
    walk_at "go"
    refine ite2 (fun c => ?_) (fun c => ?_)
    rw [List.length_map] at c
    have hz : ns[i]? = some ns[i] := by simp [show i < ns.length by omega]
    refine ⟨_, .inl hS, .int ns[i], atI_nat (by rw [List.getElem?_map, hz]; rfl), ?_⟩
    walk_at "go"
    refine ⟨.inl ⟨by decide, by decide⟩, ?_⟩
    rotate_left
    refine ⟨.inl ⟨by decide, by decide⟩, .inl ⟨by decide, by decide⟩, ?_⟩
    all_goals
      refine ⟨_, sli_l hS, fun p1 np1 => ?_⟩
      have e14 : cutV (ns.map V.int) none (some 14) = (ns.take 14).map V.int := by rw [List.map_take]; exact cutV_to _ 14
      rw [e14]
      have s1 := Same.new (o := .lst ((ns.take 14).map V.int)) np1
      refine forL (S := N0) upd_same (fun z => z) (fun j σ H' => Same H H' ∧ Ext N0 (upd H p1 (.lst ((ns.take 14).map V.int))) H' ∧ ∃ o m u, σ = [some (.ref a), some (.int i), some (.int o), some (.int m), u]) ⟨s1, Ext.refl _, _, _, _, rfl⟩ (fun j σ' H' hI => hI.2.1) ?_ ?_
      · rintro j x σ' H' hx ⟨hS1, hE, o, m, u, rfl⟩
        rw [List.getElem?_map] at hx
        obtain ⟨z, _, rfl⟩ := Option.map_eq_some_iff.mp hx
        walk_at "go"
        exact ⟨.inr ⟨by decide, by decide⟩, by decide, by decide, hS1, hE, _, _, _, rfl⟩
      · rintro σ' H' ⟨hS1, hE, o, m, u, rfl⟩
        walk_at "go"
        have fin : ∀ n : Int, (CMul m 9 ∧ (0 : Int) < 1999999889 ∧ (0 : Int) < 1999999889 ∧ 3 ≤ sizeLine ∧ ∀ p, H' p = none → Q (.ref p) (upd H' p (.lst [.int n, .int 2, .int ((m * 9 + o % 1999999889) % 1999999889)]))) := fun n =>
          ⟨.inr ⟨by decide, by decide⟩, by decide, by decide, by decide, fun p hp => q p _ _ _ _ (Same.snew hS1 hp) (Same.free hS1 hp) upd_same⟩
        refine ite2 (fun c1 => fin _) (fun c1 => ⟨⟨by decide, by decide, by decide⟩, ite2 (fun c2 => fin _) (fun c2 => fin _)⟩)
theorem ok__law_pot (T : Tx K mg) : FnOk P w K mg base L2.CX0 lv__law_pot T.f__law_pot T.d__law_pot p__law_pot (spPot K) := fn_newPot (ok1__law_pot T) rfl
end
end G
namespace G
open PySem PySem.Spec PyProof.Rows L2 U V
section
variable {P : Program} {w : World} {K : PySem.W.Frag} {mg : Str → Option Value} {base : Heap}
def tyNames : List String := ["NoneType", "bool", "int", "str", "list", "tuple", "dict"]
def spIsInteger (K : PySem.W.Frag) : DC := fun ds M R => ∃ d, ds = [d] ∧ ∃ t : String, TyD K M d (.type t) ∧ t ∈ tyNames ∧ ∃ b, (t == "int") = b ∧ R (.bl b) M
theorem okD_is_integer (T : Tx K mg) : FnOk P w K mg base L2.CX0 lv_is_integer T.f_is_integer T.d_is_integer p_is_integer (lift (spIsInteger K)) := by
  refine fnD T.F_is_integer sc_is_integer (fun ds M R h => ?_) (fun cdv A outer s H E hr => ?_)
  · first | (obtain ⟨rfl, _⟩ := h; rfl) | (obtain ⟨_, rfl, _⟩ := h; rfl) | (obtain ⟨_, _, rfl, _⟩ := h; rfl) | (obtain ⟨_, _, _, rfl, _⟩ := h; rfl) | (obtain ⟨_, _, _, _, rfl, _⟩ := h; rfl) | (obtain ⟨_, _, _, _, _, rfl, _⟩ := h; rfl) | (obtain ⟨_, _, _, _, _, _, rfl, _⟩ := h; rfl) | (obtain ⟨_, _, _, _, _, _, _, rfl, _⟩ := h; rfl) | (obtain ⟨_, _, _, _, _, _, _, _, rfl, _⟩ := h; rfl)
  · have hr64 := hr.units
    have hc_Shortener := T.c_Shortener
    have hi_Shortener := T.i_Shortener
    have hn_Shortener_limit := T.na_Shortener_limit
    have hn_Shortener_head := T.na_Shortener_head
    have hn_Shortener_tail := T.na_Shortener_tail
    have hn_Shortener_mark := T.na_Shortener_mark
    have hn_Shortener_told := T.na_Shortener_told
    refine ⟨_, (pss_one (ps_ret (pe_and (pe_callB (call_isiK (K := K) rfl) (by rfl) T.n_isinstance (by decide +kernel) (pa_cons (pv 0) (pa_cons (pe_bt "int" rfl T.n_int (by decide +kernel)) pa_nil))) (pe_one (pe_not (pe_callB (call_isiK (K := K) rfl) (by rfl) T.n_isinstance (by decide +kernel) (pa_cons (pv 0) (pa_cons (pe_bt "bool" rfl T.n_bool (by decide +kernel)) pa_nil)))))))), ?_⟩
    refine ⟨_, inferInstance, fun ds M R h => ?_⟩
    obtain ⟨d, rfl, t, ty, ht, _, rfl, q⟩ := h
    walk_at "dw"
    have k1 : ∀ s : String, s ∈ tyNames → kitB s "int" = some (s == "int" || s == "bool") ∧ kitB s "bool" = some (s == "bool") := by decide +kernel
    obtain ⟨k2, k3⟩ := k1 t ht
    refine ⟨_, _, ty, kit_ty k2, ?_⟩
    walk_at "dw"
    cases h1 : (t == "int" || t == "bool") with
    | true =>
      walk_at "dw"
      refine ⟨_, _, ty, kit_ty k3, ?_⟩
      walk_at "dw"
      cases h2 : (t == "bool") with
      | true =>
        have e : t = "bool" := by simpa using h2
        subst e
        exact q
      | false =>
        rw [h2, Bool.or_false] at h1
        rw [h1] at q
        exact q
    | false =>
      walk_at "dw"
      rw [Bool.or_eq_false_iff] at h1
      rw [h1.1] at q
      exact q
def spIsText (K : PySem.W.Frag) : DC := fun ds M R => ∃ d, ∃ n : Nat, ds = [d, .int n] ∧ ((∃ z, d = .str z ∧ z.length ≤ 16777216 ∧ R (.bl (okText n z)) M) ∨ ∃ t : String, TyD K M d (.type t) ∧ t ∈ tyNames ∧ t ≠ "str" ∧ R (.bl false) M)
theorem okD_is_text (T : Tx K mg) : FnOk P w K mg base L2.CX0 lv_is_text T.f_is_text T.d_is_text p_is_text (lift (spIsText K)) := by
  refine fnD T.F_is_text sc_is_text (fun ds M R h => ?_) (fun cdv A outer s H E hr => ?_)
  · first | (obtain ⟨rfl, _⟩ := h; rfl) | (obtain ⟨_, rfl, _⟩ := h; rfl) | (obtain ⟨_, _, rfl, _⟩ := h; rfl) | (obtain ⟨_, _, _, rfl, _⟩ := h; rfl) | (obtain ⟨_, _, _, _, rfl, _⟩ := h; rfl) | (obtain ⟨_, _, _, _, _, rfl, _⟩ := h; rfl) | (obtain ⟨_, _, _, _, _, _, rfl, _⟩ := h; rfl) | (obtain ⟨_, _, _, _, _, _, _, rfl, _⟩ := h; rfl) | (obtain ⟨_, _, _, _, _, _, _, _, rfl, _⟩ := h; rfl)
  · have hr64 := hr.units
    have hc_Shortener := T.c_Shortener
    have hi_Shortener := T.i_Shortener
    have hn_Shortener_limit := T.na_Shortener_limit
    have hn_Shortener_head := T.na_Shortener_head
    have hn_Shortener_tail := T.na_Shortener_tail
    have hn_Shortener_mark := T.na_Shortener_mark
    have hn_Shortener_told := T.na_Shortener_told
    refine ⟨_, (pss_one (ps_ret (pe_and (pe_callB (call_isiK (K := K) rfl) (by rfl) T.n_isinstance (by decide +kernel) (pa_cons (pv 0) (pa_cons (pe_bt "str" rfl T.n_str (by decide +kernel)) pa_nil))) (pe_and (pe_cmpR op_le (pe_callB (call_lenK (K := K) rfl) (by rfl) T.n_len (by decide +kernel) (pa_cons (pv 0) pa_nil)) (pv 1) (nomark _)) (pe_one (pe_callB (cr_allK (K := K) rfl rfl) (by rfl) T.n_all (by decide +kernel) (pa_cons (pe_lc (own := [("sign", 2)]) rfl sc_is_text.nd (pi_str (pv 0)) (blkOk_by (N := ["value", "most", "sign"]) (sc := L2.defScope s_is_text) (by decide +kernel)) (fun _ _ _ _ _ => (pg_name (i := 2) sc_is_text.nd rfl (by first | exact Or.inl rfl | exact Or.inr rfl))) (fun _ _ _ _ _ => pts_nil) (fun _ _ _ _ _ => (pe_cmpR (op_inK (K := K) rfl) (pv 2) (C8.pe_gc rfl T.k_SIGNS) (by rfl)))) pa_nil))))))), ?_⟩
    refine ⟨_, inferInstance, fun ds M R h => ?_⟩
    obtain ⟨d, n, rfl, h⟩ := h
    walk_at "dw"
    rcases h with ⟨z, rfl, hz, q⟩ | ⟨t, ty, ht, hs, q⟩
    · refine ⟨_, true, .str _, kit_ty (by decide +kernel), ?_⟩
      walk_at "dw"
      refine V.x_lenS ⟨by rw [sizeLine_eq]; exact hz, ?_⟩
      walk_at "dw"
      refine x_ite _ (fun c => ?_) (fun c => ?_)
      · have c' : z.length ≤ n := by exact_mod_cast c
        walk_at "dw"
        refine ⟨by rw [List.length_map, cd_len]; exact hz, ?_⟩
        refine gather_all (f := fun d => match d with | .str y => .bl (isSign (y.cps.toList.getD 0 0)) | d => d) ?_ trivial ?_
        · intro x hx Ky hy
          obtain ⟨c, hc, rfl⟩ := List.mem_map.mp hx
          walk_at "dw"
          exact ⟨c, rfl, hy⟩
        · walk_at "dw"
          refine ⟨_, (cd z).map isSign, rfl, .inl ?_, ?_⟩
          · rw [List.map_map, List.map_map]
            rfl
          · have e3 : ((cd z).map isSign).all id = okText n z := by
              unfold okText
              rw [decide_eq_true c', List.all_map]
              rfl
            rw [e3]
            exact q
      · have e3 : okText n z = false := by
          unfold okText
          rw [decide_eq_false (fun z => c (by exact_mod_cast z)), Bool.false_and]
        rw [e3] at q
        exact q
    · have k1 : ∀ s : String, s ∈ tyNames → s ≠ "str" → kitB s "str" = some false := by decide +kernel
      refine ⟨_, _, ty, kit_ty (k1 t ht hs), ?_⟩
      walk_at "dw"
      exact q
def spCheckNumber : DC := fun ds M R => ∃ n : Nat, ds = [.int n] ∧ n ≤ 40 ∧ R .non M
theorem okD_check_number (T : Tx K mg) : FnOk P w K mg base L2.CX0 lv_check_number T.f_check_number T.d_check_number p_check_number (lift (spCheckNumber)) := by
  refine fnD T.F_check_number sc_check_number (fun ds M R h => ?_) (fun cdv A outer s H E hr => ?_)
  · first | (obtain ⟨rfl, _⟩ := h; rfl) | (obtain ⟨_, rfl, _⟩ := h; rfl) | (obtain ⟨_, _, rfl, _⟩ := h; rfl) | (obtain ⟨_, _, _, rfl, _⟩ := h; rfl) | (obtain ⟨_, _, _, _, rfl, _⟩ := h; rfl) | (obtain ⟨_, _, _, _, _, rfl, _⟩ := h; rfl) | (obtain ⟨_, _, _, _, _, _, rfl, _⟩ := h; rfl) | (obtain ⟨_, _, _, _, _, _, _, rfl, _⟩ := h; rfl) | (obtain ⟨_, _, _, _, _, _, _, _, rfl, _⟩ := h; rfl)
  · have hr64 := hr.units
    have hc_Shortener := T.c_Shortener
    have hi_Shortener := T.i_Shortener
    have hn_Shortener_limit := T.na_Shortener_limit
    have hn_Shortener_head := T.na_Shortener_head
    have hn_Shortener_tail := T.na_Shortener_tail
    have hn_Shortener_mark := T.na_Shortener_mark
    have hn_Shortener_told := T.na_Shortener_told
    refine ⟨_, (pss_one (ps_if (PW.pt (pw_or (pt_not (pt_val (pe_call (okD_is_integer T) (hr.mono (by decide)) rfl T.m_is_integer T.F_is_integer.kp T.b_is_integer .nil pass0 (pa_cons (pv 0) pa_nil)))) (pw_or1 (pt_not (pt_chain op_le op_le pe_int (pv 0) (C8.pe_gc rfl T.k_MOST_SIGNS)))))) (pss_one ps_never) pss_nil)), ?_⟩
    refine ⟨_, inferInstance, fun ds M R h => ?_⟩
    obtain ⟨n, rfl, hn, q⟩ := h
    walk_at "dw"
    refine ⟨_, rfl, _, .int _, by decide, true, rfl, ?_⟩
    walk_at "dw"
    exact q
def shFs (s : Sh) : List (Str × D) := [("limit", .int s.limit), ("head", .int s.head), ("tail", .int s.tail), ("mark", .str s.mark), ("told", toldD s)]
def spShI (C : Addr) : DC := fun ds M R => ∃ (x : Addr) (s : Sh), ds = [.ptr x, .int s.limit, .int s.head, .int s.tail, .str s.mark] ∧ s.ok ∧ M x = some (.ins C []) ∧ R .non (mset M x (.ins C (shFs s)))
theorem okD_Shortener___init__ (T : Tx K mg) : FnOk P w K mg base L2.CX0 lv_Shortener___init__ T.f_Shortener___init__ T.d_Shortener___init__ p_Shortener___init__ (lift (spShI T.C_Shortener)) := by
  refine fnD T.F_Shortener___init__ sc_Shortener___init__ (fun ds M R h => ?_) (fun cdv A outer s H E hr => ?_)
  · first | (obtain ⟨rfl, _⟩ := h; rfl) | (obtain ⟨_, rfl, _⟩ := h; rfl) | (obtain ⟨_, _, rfl, _⟩ := h; rfl) | (obtain ⟨_, _, _, rfl, _⟩ := h; rfl) | (obtain ⟨_, _, _, _, rfl, _⟩ := h; rfl) | (obtain ⟨_, _, _, _, _, rfl, _⟩ := h; rfl) | (obtain ⟨_, _, _, _, _, _, rfl, _⟩ := h; rfl) | (obtain ⟨_, _, _, _, _, _, _, rfl, _⟩ := h; rfl) | (obtain ⟨_, _, _, _, _, _, _, _, rfl, _⟩ := h; rfl)
  · have hr64 := hr.units
    have hc_Shortener := T.c_Shortener
    have hi_Shortener := T.i_Shortener
    have hn_Shortener_limit := T.na_Shortener_limit
    have hn_Shortener_head := T.na_Shortener_head
    have hn_Shortener_tail := T.na_Shortener_tail
    have hn_Shortener_mark := T.na_Shortener_mark
    have hn_Shortener_told := T.na_Shortener_told
    refine ⟨_, (pss_cons (ps_expr (pe_call (okD_check_number T) (hr.mono (by decide)) rfl T.m_check_number T.F_check_number.kp T.b_check_number .nil pass0 (pa_cons (pv 1) pa_nil)))
        (pss_cons (ps_expr (pe_call (okD_check_number T) (hr.mono (by decide)) rfl T.m_check_number T.F_check_number.kp T.b_check_number .nil pass0 (pa_cons (pv 2) pa_nil)))
        (pss_cons (ps_expr (pe_call (okD_check_number T) (hr.mono (by decide)) rfl T.m_check_number T.F_check_number.kp T.b_check_number .nil pass0 (pa_cons (pv 3) pa_nil)))
        (pss_cons (ps_if (pt_not (pt_val (pe_call (okD_is_text T) (hr.mono (by decide)) rfl T.m_is_text T.F_is_text.kp T.b_is_text .nil pass0 (pa_cons (pv 4) (pa_cons (C8.pe_gc rfl T.k_MOST_MARK) pa_nil))))) (pss_one ps_never) pss_nil)
        (pss_cons (ps_fld (pv 0) (pv 1) rfl)
        (pss_cons (ps_fld (pv 0) (pv 2) rfl)
        (pss_cons (ps_fld (pv 0) (pv 3) rfl)
        (pss_cons (ps_fld (pv 0) (pv 4) rfl)
        (pss_one (ps_fld (pv 0) (pe_tup (pa_cons (pv 1) (pa_cons (pv 2) (pa_cons (pv 3) (pa_cons (pv 4) pa_nil))))) rfl)))))))))), ?_⟩
    refine ⟨_, inferInstance, fun ds M R h => ?_⟩
    obtain ⟨x, sh, rfl, ⟨o1, o2, o3, o4⟩, hx, q⟩ := h
    walk_at "dw"
    refine ⟨_, rfl, o1, ?_⟩
    walk_at "dw"
    refine ⟨_, rfl, o2, ?_⟩
    walk_at "dw"
    refine ⟨_, rfl, o3, ?_⟩
    walk_at "dw"
    have h1 := (okText_iff.mp o4).1
    refine ⟨_, 3, rfl, .inl ⟨sh.mark, rfl, by omega, ?_⟩⟩
    rw [o4]
    walk_at "dw"
    exact q
theorem okF_Shortener___init__ (T : Tx K mg) : FnOk P w K mg base L2.CX0 lv_Shortener___init__ T.f_Shortener___init__ T.d_Shortener___init__ p_Shortener___init__ (liftF (spShI T.C_Shortener)) := okD_Shortener___init__ T
/-- a new shortener -/
theorem mk_sh {C : Addr} {s : Sh} {M : Mem} {R : QD} (h : s.ok) (q : R (shD C s) M) : rMakeF C (spShI C) [.int s.limit, .int s.head, .int s.tail, .str s.mark] M R := fun x hx =>
  ⟨x, s, rfl, h, mset_same, rfl, shFs s, mset_same, by rw [mset_set, mdel_set hx]; exact q⟩
def spCut (C : Addr) : DC := fun ds M R => ∃ (s : Sh) (xs : List D), ds = [shD C s, .lst xs] ∧ s.ok ∧ xs.length ≤ 4000000 ∧ R (.lst (cutP sgn s xs)) M
theorem cutG_to {α : Type} (xs : List α) (n : Nat) : cutG xs none (some (n : Int)) = xs.take n := by
  unfold cutG
  rw [HT.sIx_none, HT.sIx_nat, List.drop_zero, Nat.sub_zero]
  by_cases h : n ≤ xs.length
  · rw [Nat.min_eq_left h]
  · rw [Nat.min_eq_right (by omega), List.take_of_length_le (by omega), List.take_of_length_le (by omega)]
theorem cutG_from {α : Type} (xs : List α) (n : Nat) : cutG xs (some (n : Int)) none = xs.drop n := by
  unfold cutG
  rw [HT.sIx_none, HT.sIx_nat]
  by_cases h : n ≤ xs.length
  · rw [Nat.min_eq_left h]
    exact List.take_of_length_le (by rw [List.length_drop]; omega)
  · rw [Nat.min_eq_right (by omega), Nat.sub_self, List.take_zero, List.drop_eq_nil_of_le (by omega)]
theorem cutG_back {α : Type} (xs : List α) (n : Nat) (h0 : 0 < n) : cutG xs (some (-(n : Int))) none = xs.drop (xs.length - n) := by
  unfold cutG
  have e : HT.sIx xs.length 0 (some (-(n : Int))) = xs.length - n := by
    show (if -(n : Int) < 0 then (-(n : Int) + (xs.length : Int)).toNat else _) = _
    rw [if_pos (by omega)]
    omega
  rw [HT.sIx_none, e]
  exact List.take_of_length_le (by rw [List.length_drop]; omega)
theorem okD_Shortener_cut (T : Tx K mg) : FnOk P w K mg base L2.CX0 lv_Shortener_cut T.f_Shortener_cut T.d_Shortener_cut p_Shortener_cut (lift (spCut T.C_Shortener)) := by
  refine fnD T.F_Shortener_cut sc_Shortener_cut (fun ds M R h => ?_) (fun cdv A outer s H E hr => ?_)
  · first | (obtain ⟨rfl, _⟩ := h; rfl) | (obtain ⟨_, rfl, _⟩ := h; rfl) | (obtain ⟨_, _, rfl, _⟩ := h; rfl) | (obtain ⟨_, _, _, rfl, _⟩ := h; rfl) | (obtain ⟨_, _, _, _, rfl, _⟩ := h; rfl) | (obtain ⟨_, _, _, _, _, rfl, _⟩ := h; rfl) | (obtain ⟨_, _, _, _, _, _, rfl, _⟩ := h; rfl) | (obtain ⟨_, _, _, _, _, _, _, rfl, _⟩ := h; rfl) | (obtain ⟨_, _, _, _, _, _, _, _, rfl, _⟩ := h; rfl)
  · have hr64 := hr.units
    have hc_Shortener := T.c_Shortener
    have hi_Shortener := T.i_Shortener
    have hn_Shortener_limit := T.na_Shortener_limit
    have hn_Shortener_head := T.na_Shortener_head
    have hn_Shortener_tail := T.na_Shortener_tail
    have hn_Shortener_mark := T.na_Shortener_mark
    have hn_Shortener_told := T.na_Shortener_told
    refine ⟨_, (pss_cons (ps_if (pt_cmpR op_le (pe_callB (call_lenK (K := K) rfl) (by rfl) T.n_len (by decide +kernel) (pa_cons (pv 1) pa_nil)) (pe_fldK (K := K) rfl (pv 0)) (nomark _)) (pss_one (ps_ret (pv 1))) pss_nil)
        (pss_one (ps_ret (pe_lst (pa_starK (K := K) rfl (pe_slice (sl_Z (K := K) rfl) (pv 1) po_none (po_some (pe_fldK (K := K) rfl (pv 0)))) (pa_starK (K := K) rfl (pe_callTy (call_listK (K := K) rfl rfl) (by rfl) T.n_list (by decide +kernel) (pa_cons (pe_fldK (K := K) rfl (pv 0)) pa_nil)) (pa_starK (K := K) rfl (pe_slice (sl_Z (K := K) rfl) (pv 1) (po_some (pe_callB (call_maxU rfl) (by rfl) T.n_max (by decide +kernel) (pa_cons pe_int (pa_cons (pe_op op_sub (pe_callB (call_lenK (K := K) rfl) (by rfl) T.n_len (by decide +kernel) (pa_cons (pv 1) pa_nil)) (pe_fldK (K := K) rfl (pv 0))) pa_nil)))) po_none) pa_nil))))))), ?_⟩
    refine ⟨_, inferInstance, fun ds M R h => ?_⟩
    obtain ⟨s, xs, rfl, hs, hl, q⟩ := h
    unfold shD
    walk_at "dw"
    refine x_ite _ (fun c => ?_) (fun c => ?_)
    · walk_at "dw"
      rw [show cutP sgn s xs = xs by unfold cutP; rw [if_pos (by omega)]] at q
      exact q
    · walk_at "dw"
      have hm := (okText_iff.mp hs.2.2.2).1
      refine V.x_listS ⟨by rw [sizeLine_eq]; omega, ?_⟩
      walk_at "dw"
      have e2 : (if ((xs.length : Int) - (s.tail : Int) > 0) then ((xs.length : Int) - (s.tail : Int)) else 0) = ((xs.length - s.tail : Nat) : Int) := by
        split <;> omega
      rw [e2, cutG_from, cutG_to]
      refine ⟨?_, ?_⟩
      · rw [sizeLine_eq, List.length_append, List.length_append, List.length_append, List.length_take, List.length_drop, List.length_map, cd_len]
        simp
        omega
      · unfold cutP at q
        rw [if_neg (by omega), List.append_assoc] at q
        rw [List.append_nil]
        exact q
def spCutBy (C : Addr) : DC := fun ds M R => ∃ (row : List Sh) (xs : List D), ds = [rowD C row, .lst xs] ∧ (∀ s ∈ row, s.ok) ∧ xs.length ≤ 4000000 ∧ R (.lst (cutR sgn row xs)) M
theorem okD_cut_by (T : Tx K mg) : FnOk P w K mg base L2.CX0 lv_cut_by T.f_cut_by T.d_cut_by p_cut_by (lift (spCutBy T.C_Shortener)) := by
  refine fnD T.F_cut_by sc_cut_by (fun ds M R h => ?_) (fun cdv A outer s H E hr => ?_)
  · first | (obtain ⟨rfl, _⟩ := h; rfl) | (obtain ⟨_, rfl, _⟩ := h; rfl) | (obtain ⟨_, _, rfl, _⟩ := h; rfl) | (obtain ⟨_, _, _, rfl, _⟩ := h; rfl) | (obtain ⟨_, _, _, _, rfl, _⟩ := h; rfl) | (obtain ⟨_, _, _, _, _, rfl, _⟩ := h; rfl) | (obtain ⟨_, _, _, _, _, _, rfl, _⟩ := h; rfl) | (obtain ⟨_, _, _, _, _, _, _, rfl, _⟩ := h; rfl) | (obtain ⟨_, _, _, _, _, _, _, _, rfl, _⟩ := h; rfl)
  · have hr64 := hr.units
    have hc_Shortener := T.c_Shortener
    have hi_Shortener := T.i_Shortener
    have hn_Shortener_limit := T.na_Shortener_limit
    have hn_Shortener_head := T.na_Shortener_head
    have hn_Shortener_tail := T.na_Shortener_tail
    have hn_Shortener_mark := T.na_Shortener_mark
    have hn_Shortener_told := T.na_Shortener_told
    refine ⟨_, (pss_cons (ps_for PassesOwn.never rfl (pi_tupK (K := K) rfl (pv 0)) (pg_name (i := 2) sc_cut_by.nd rfl (by first | exact Or.inl rfl | exact Or.inr rfl)) (pss_one (ps_set (i := 1) sc_cut_by.nd rfl (by first | exact Or.inl rfl | exact Or.inr rfl) (pe_meth (pv 2) T.c_Shortener T.t_Shortener_cut (okD_Shortener_cut T) (hr.mono (by decide)) T.b_Shortener_cut .nil pass0 (pa_cons (pv 1) pa_nil)))))
        (pss_one (ps_ret (pv 1)))), ?_⟩
    refine ⟨_, inferInstance, fun ds M R h => ?_⟩
    obtain ⟨row, xs, rfl, hrow, hl, q⟩ := h
    unfold rowD
    walk_at "dw"
    refine loop_inv (fun i δ M' => M' = M ∧ ∃ u, δ = [some (rowD T.C_Shortener row), some (.lst (cutR sgn (row.take i) xs)), u]) ⟨rfl, _, rfl⟩ ?_ ?_
    · rintro i x δ M' Kc hx ⟨rfl, u, rfl⟩ hk
      rw [List.getElem?_map] at hx
      obtain ⟨sh, hsh, rfl⟩ := Option.map_eq_some_iff.mp hx
      walk_at "dw"
      refine ⟨⟨_, _, .inl rfl, by decide +kernel⟩, ?_⟩
      walk_at "dw"
      refine ⟨sh, _, rfl, hrow sh (List.mem_of_getElem? hsh), cutR_le sgn (fun t ht => hrow t (List.mem_of_mem_take ht)) _ hl (by omega), ?_⟩
      walk_at "dw"
      have hk2 := hk [some (rowD T.C_Shortener row), some (.lst (cutR sgn (row.take (i + 1)) xs)), some (shD T.C_Shortener sh)] M' trivial ⟨rfl, _, rfl⟩
      rw [take_snoc hsh, cutR_snoc] at hk2
      exact hk2.2
    · rintro δ M' ⟨rfl, u, rfl⟩
      rw [List.length_map, List.take_length]
      walk_at "dw"
      exact q
/-- the signs of a list, joined -/
theorem join_sgn {l : List Nat} {M : Mem} {R : QD} (hl : l.length ≤ 4000000) (q : R (.str (ofL l)) M) : rJoin1 (.str (Str.ofString "")) (.lst (l.map sgn)) M R := by
  refine ⟨_, l.map one, rfl, .inl (by rw [List.map_map]; rfl), ?_, ?_⟩
  · rw [List.map_map, List.length_map]
    have e4 : l.map ((fun x => x.length) ∘ one) = l.map fun _ => 1 := rfl
    rw [e4, sum_ones]
    show _ + _ * 0 ≤ _
    omega
  · rw [U.join_one1]
    exact q
end
end G
namespace G
open PySem PySem.Spec PyProof.Rows L2 U V
section
variable {P : Program} {w : World} {K : PySem.W.Frag} {mg : Str → Option Value} {base : Heap}
theorem okD__law_ladle (T : Tx K mg) : FnOk P w K mg base L2.CX0 lv__law_ladle T.f__law_ladle T.d__law_ladle p__law_ladle (lift spDrawD) := fn_weak (ok__law_ladle T) draw_lift
def spOneOfD : DC := fun ds M R => ∃ p v, ds = [potD p, v] ∧ ((∃ xs, isSq M v xs ∧ 0 < xs.length ∧ xs.length < 1000000 ∧ ∀ x ∈ xs, R x M) ∨ (∃ z, v = .str z ∧ 0 < z.length ∧ z.length < 1000000 ∧ ∀ c ∈ cd z, R (.str (one c)) M))
theorem okD__law_one_of (T : Tx K mg) : FnOk P w K mg base L2.CX0 lv__law_one_of T.f__law_one_of T.d__law_one_of p__law_one_of (lift (spOneOfD)) := by
  refine fnD T.F__law_one_of sc__law_one_of (fun ds M R h => ?_) (fun cdv A outer s H E hr => ?_)
  · first | (obtain ⟨rfl, _⟩ := h; rfl) | (obtain ⟨_, rfl, _⟩ := h; rfl) | (obtain ⟨_, _, rfl, _⟩ := h; rfl) | (obtain ⟨_, _, _, rfl, _⟩ := h; rfl) | (obtain ⟨_, _, _, _, rfl, _⟩ := h; rfl) | (obtain ⟨_, _, _, _, _, rfl, _⟩ := h; rfl) | (obtain ⟨_, _, _, _, _, _, rfl, _⟩ := h; rfl) | (obtain ⟨_, _, _, _, _, _, _, rfl, _⟩ := h; rfl) | (obtain ⟨_, _, _, _, _, _, _, _, rfl, _⟩ := h; rfl)
  · have hr64 := hr.units
    have hc_Shortener := T.c_Shortener
    have hi_Shortener := T.i_Shortener
    have hn_Shortener_limit := T.na_Shortener_limit
    have hn_Shortener_head := T.na_Shortener_head
    have hn_Shortener_tail := T.na_Shortener_tail
    have hn_Shortener_mark := T.na_Shortener_mark
    have hn_Shortener_told := T.na_Shortener_told
    refine ⟨_, (pss_one (ps_ret (pe_ix (ix_K (K := K) rfl) (pv 1) (pe_call (okD__law_ladle T) (hr.mono (by decide)) rfl T.m__law_ladle T.F__law_ladle.kp T.b__law_ladle .nil pass0 (pa_cons (pv 0) (pa_cons (pe_callB (call_lenK (K := K) rfl) (by rfl) T.n_len (by decide +kernel) (pa_cons (pv 1) pa_nil)) pa_nil))) (fun _ _ => rfl)))), ?_⟩
    refine ⟨_, inferInstance, fun ds M R h => ?_⟩
    obtain ⟨p, v, rfl, h⟩ := h
    walk_at "dw"
    rcases h with ⟨xs, hx, h0, h1, q⟩ | ⟨z, rfl, h0, h1, q⟩
    · have hl : ∀ R' : Int → Prop, R' xs.length → V.lenR M v R' := by
        intro R' hR
        rcases hx with rfl | hx | ⟨a, rfl, hx⟩
        · exact ⟨xs, .inl rfl, hR⟩
        · rcases tf_cases hx with rfl | rfl <;> exact ⟨xs, .inr (.inl rfl), hR⟩
        · exact ⟨xs, .inr (.inr ⟨a, rfl, hx⟩), hR⟩
      refine ⟨v, rfl, hl _ ?_⟩
      walk_at "dw"
      refine ⟨p, _, rfl, ⟨by omega, by omega⟩, fun r r0 r1 => ?_⟩
      obtain ⟨j, rfl⟩ := Int.eq_ofNat_of_zero_le r0
      have hj : j < xs.length := by omega
      have e : atI xs ((j : Nat) : Int) = some xs[j] := atI_nat (at_some hj)
      have q2 := q _ (List.getElem_mem hj)
      rcases hx with rfl | hx | ⟨a, rfl, hx⟩
      · exact ⟨xs, _, .inl rfl, e, q2⟩
      · rcases tf_cases hx with rfl | rfl <;> exact ⟨xs, _, .inr (.inl rfl), e, q2⟩
      · exact ⟨xs, _, .inr (.inr ⟨a, rfl, hx⟩), e, q2⟩
    · refine V.x_lenS ⟨by rw [sizeLine_eq]; omega, ?_⟩
      walk_at "dw"
      refine ⟨p, _, rfl, ⟨by omega, by omega⟩, fun r r0 r1 => ?_⟩
      obtain ⟨j, rfl⟩ := Int.eq_ofNat_of_zero_le r0
      have hj : j < (cd z).length := by rw [cd_len]; omega
      exact ⟨_, by rw [sizeLine_eq]; omega, atI_nat (at_some hj), q _ (List.getElem_mem hj)⟩
/-- one of a list of texts, of numbers -/
theorem one_lst {p : Addr} {xs : List D} {M : Mem} {R : QD} (q : ∀ x ∈ xs, R x M) (h0 : 0 < xs.length := by decide) (h1 : xs.length < 1000000 := by decide) : spOneOfD [potD p, .lst xs] M R := ⟨p, _, rfl, .inl ⟨xs, .inl rfl, h0, h1, q⟩⟩
theorem one_str {p : Addr} {z : Str} {M : Mem} {R : QD} (q : ∀ c ∈ cd z, R (.str (one c)) M) (h0 : 0 < z.length) (h1 : z.length < 1000000) : spOneOfD [potD p, .str z] M R := ⟨p, _, rfl, .inr ⟨z, rfl, h0, h1, q⟩⟩
theorem draw_D {p : Addr} {n : Int} {M : Mem} {R : QD} (hn : 0 < n) (hn2 : n < 1073741824) (q : ∀ k : Nat, (k : Int) < n → R (.int k) M) : spDrawD [potD p, .int n] M R := ⟨p, n, rfl, ⟨hn, hn2⟩, fun r r0 r1 => by
  obtain ⟨j, rfl⟩ := Int.eq_ofNat_of_zero_le r0
  exact q j r1⟩
def spLine : DC := fun ds M R => ∃ (p : Addr) (n : Nat), ds = [potD p, .int n] ∧ n ≤ 4000000 ∧ ∀ z, (cd z).length = n → (∀ c ∈ cd z, c ∈ U.signs) → R (.str z) M
theorem okD__law_line (T : Tx K mg) : FnOk P w K mg base L2.CX0 lv__law_line T.f__law_line T.d__law_line p__law_line (lift (spLine)) := by
  refine fnD T.F__law_line sc__law_line (fun ds M R h => ?_) (fun cdv A outer s H E hr => ?_)
  · first | (obtain ⟨rfl, _⟩ := h; rfl) | (obtain ⟨_, rfl, _⟩ := h; rfl) | (obtain ⟨_, _, rfl, _⟩ := h; rfl) | (obtain ⟨_, _, _, rfl, _⟩ := h; rfl) | (obtain ⟨_, _, _, _, rfl, _⟩ := h; rfl) | (obtain ⟨_, _, _, _, _, rfl, _⟩ := h; rfl) | (obtain ⟨_, _, _, _, _, _, rfl, _⟩ := h; rfl) | (obtain ⟨_, _, _, _, _, _, _, rfl, _⟩ := h; rfl) | (obtain ⟨_, _, _, _, _, _, _, _, rfl, _⟩ := h; rfl)
  · have hr64 := hr.units
    have hc_Shortener := T.c_Shortener
    have hi_Shortener := T.i_Shortener
    have hn_Shortener_limit := T.na_Shortener_limit
    have hn_Shortener_head := T.na_Shortener_head
    have hn_Shortener_tail := T.na_Shortener_tail
    have hn_Shortener_mark := T.na_Shortener_mark
    have hn_Shortener_told := T.na_Shortener_told
    refine ⟨_, (pss_cons (ps_set (i := 2) sc__law_line.nd rfl (by first | exact Or.inl rfl | exact Or.inr rfl) (pe_call (okD__law_one_of T) (hr.mono (by decide)) rfl T.m__law_one_of T.F__law_one_of.kp T.b__law_one_of .nil pass0 (pa_cons (pv 0) (pa_cons (pe_lst (pa_cons pe_str (pa_cons pe_str (pa_cons pe_str pa_nil)))) pa_nil))))
        (pss_one (ps_ret (pe_joinK (K := K) rfl pe_str (pe_lc (own := [("_law_k", 3)]) rfl sc__law_line.nd (pi_range1 rfl T.n_range (pa_cons (pv 1) pa_nil)) (blkOk_by (N := ["_law_pot_here", "_law_many", "_law_signs_here", "_law_k"]) (sc := L2.defScope s__law_line) (by decide +kernel)) (fun _ _ _ _ _ => (pg_name (i := 3) sc__law_line.nd rfl (by first | exact Or.inl rfl | exact Or.inr rfl))) (fun _ _ _ _ _ => pts_nil) (fun _ _ _ _ _ => (pe_call (okD__law_one_of T) (hr.mono (by decide)) rfl T.m__law_one_of T.F__law_one_of.kp T.b__law_one_of .nil pass0 (pa_cons (pv 0) (pa_cons (pv 2) pa_nil))))))))), ?_⟩
    refine ⟨_, inferInstance, fun ds M R h => ?_⟩
    obtain ⟨p, n, rfl, hn, q⟩ := h
    walk_at "dw"
    refine one_lst fun x hx => ?_
    obtain ⟨m, rfl, hm, hm0, hm1⟩ : ∃ m, x = .str m ∧ (∀ c ∈ cd m, c ∈ U.signs) ∧ 0 < m.length ∧ m.length < 1000 := by
      simp only [List.mem_cons, List.not_mem_nil, or_false] at hx
      rcases hx with rfl | rfl | rfl <;> exact ⟨_, rfl, by decide +kernel, by decide +kernel, by decide +kernel⟩
    walk_at "dw"
    refine ⟨by omega, by omega, trivial, by rw [rgD_len]; omega, ?_⟩
    refine gather_inv (fun i acc M' => M' = M ∧ ∃ l : List Nat, acc = l.map sgn ∧ l.length = i ∧ ∀ c ∈ l, c ∈ U.signs) ⟨rfl, [], rfl, rfl, fun _ h => by cases h⟩ ?_ ?_
    · rintro i x acc M' Ky Kn hx ⟨rfl, l, rfl, hl, hok⟩ hy hn
      walk_at "dw"
      refine one_str (fun c hc => ?_) hm0 (by omega)
      refine hy _ _ trivial ⟨rfl, l ++ [c], by rw [List.map_append]; rfl, by rw [List.length_append, hl]; rfl, fun t ht => ?_⟩
      rcases List.mem_append.mp ht with z | z
      · exact hok t z
      · rw [List.mem_singleton.mp z]
        exact hm c hc
    · rintro acc M' ⟨rfl, l, rfl, hl, hok⟩
      rw [rgD_len] at hl
      refine join_sgn (by omega) (q (ofL l) (by rw [cd_ofL]; omega) (by rw [cd_ofL]; exact hok))
def spLawCut : DC := fun ds M R => ∃ (row : List Sh) (xs : List D), ds = [toldsD row, .lst xs] ∧ (∀ s ∈ row, s.ok) ∧ xs.length ≤ 4000000 ∧ R (.lst (cutR sgn row xs)) M
theorem okD__law_cut (T : Tx K mg) : FnOk P w K mg base L2.CX0 lv__law_cut T.f__law_cut T.d__law_cut p__law_cut (lift (spLawCut)) := by
  refine fnD T.F__law_cut sc__law_cut (fun ds M R h => ?_) (fun cdv A outer s H E hr => ?_)
  · first | (obtain ⟨rfl, _⟩ := h; rfl) | (obtain ⟨_, rfl, _⟩ := h; rfl) | (obtain ⟨_, _, rfl, _⟩ := h; rfl) | (obtain ⟨_, _, _, rfl, _⟩ := h; rfl) | (obtain ⟨_, _, _, _, rfl, _⟩ := h; rfl) | (obtain ⟨_, _, _, _, _, rfl, _⟩ := h; rfl) | (obtain ⟨_, _, _, _, _, _, rfl, _⟩ := h; rfl) | (obtain ⟨_, _, _, _, _, _, _, rfl, _⟩ := h; rfl) | (obtain ⟨_, _, _, _, _, _, _, _, rfl, _⟩ := h; rfl)
  · have hr64 := hr.units
    have hc_Shortener := T.c_Shortener
    have hi_Shortener := T.i_Shortener
    have hn_Shortener_limit := T.na_Shortener_limit
    have hn_Shortener_head := T.na_Shortener_head
    have hn_Shortener_tail := T.na_Shortener_tail
    have hn_Shortener_mark := T.na_Shortener_mark
    have hn_Shortener_told := T.na_Shortener_told
    refine ⟨_, (pss_cons (ps_for PassesOwn.never rfl (pi_listK (K := K) rfl (pv 0)) (pg_tupK (K := K) (n := 4) rfl rfl (pgs_cons (pg_name (i := 2) sc__law_cut.nd rfl (by first | exact Or.inl rfl | exact Or.inr rfl)) (pgs_cons (pg_name (i := 3) sc__law_cut.nd rfl (by first | exact Or.inl rfl | exact Or.inr rfl)) (pgs_cons (pg_name (i := 4) sc__law_cut.nd rfl (by first | exact Or.inl rfl | exact Or.inr rfl)) (pgs_cons (pg_name (i := 5) sc__law_cut.nd rfl (by first | exact Or.inl rfl | exact Or.inr rfl)) pgs_nil))))) (pss_one (ps_if (pt_cmpR op_gt (pe_callB (call_lenK (K := K) rfl) (by rfl) T.n_len (by decide +kernel) (pa_cons (pv 1) pa_nil)) (pv 2) (nomark _)) (pss_cons (ps_par (i := 6) (j := 7) rfl sc__law_cut.nd rfl rfl (by decide) rfl rfl (pa_cons (pe_slice (sl_Z (K := K) rfl) (pv 1) po_none (po_some (pv 3))) (pa_cons (pe_ifExp (pt_cmpR op_gt (pv 4) pe_int (nomark _)) (pe_slice (sl_Z (K := K) rfl) (pv 1) (po_some (pe_un un_neg (pv 4))) po_none) (pe_lst pa_nil)) pa_nil)) (by rfl))
        (pss_one (ps_set (i := 1) sc__law_cut.nd rfl (by first | exact Or.inl rfl | exact Or.inr rfl) (pe_op op_addU (pe_op op_addU (pv 6) (pe_lc (own := [("_law_each", 8)]) rfl sc__law_cut.nd (pi_str (pv 5)) (blkOk_by (N := ["_law_tolds", "_law_things", "_law_bound", "_law_low", "_law_high", "_law_sign", "_law_front", "_law_back", "_law_each"]) (sc := L2.defScope s__law_cut) (by decide +kernel)) (fun _ _ _ _ _ => (pg_name (i := 8) sc__law_cut.nd rfl (by first | exact Or.inl rfl | exact Or.inr rfl))) (fun _ _ _ _ _ => pts_nil) (fun _ _ _ _ _ => (pv 8)))) (pv 7))))) pss_nil)))
        (pss_one (ps_ret (pv 1)))), ?_⟩
    refine ⟨_, inferInstance, fun ds M R h => ?_⟩
    obtain ⟨row, xs, rfl, hrow, hz, q⟩ := h
    unfold toldsD
    walk_at "dw"
    refine loop_inv (fun i δ M' => M' = M ∧ ∃ u1 u2 u3 u4 u5 u6 u7, δ = [some (toldsD row), some (.lst (cutR sgn (row.take i) xs)), u1, u2, u3, u4, u5, u6, u7]) ⟨rfl, _, _, _, _, _, _, _, rfl⟩ ?_ ?_
    · rintro i x δ M' Kc hx ⟨rfl, u1, u2, u3, u4, u5, u6, u7, rfl⟩ hk
      rw [List.getElem?_map] at hx
      obtain ⟨s, hs, rfl⟩ := Option.map_eq_some_iff.mp hx
      have hok := hrow s (List.mem_of_getElem? hs)
      have hm := (okText_iff.mp hok.2.2.2).1
      have hle : (cutR sgn (row.take i) xs).length ≤ 4000000 := cutR_le sgn (fun t ht => hrow t (List.mem_of_mem_take ht)) _ hz (by omega)
      have step : cutR sgn (row.take (i + 1)) xs = cutP sgn s (cutR sgn (row.take i) xs) := by rw [take_snoc hs, cutR_snoc]
      generalize hc : cutR sgn (row.take i) xs = ys at hle step
      unfold toldD
      walk_at "dw"
      refine x_ite _ (fun c => ?_) (fun c => ?_)
      · walk_at "dw"
        rw [cutG_to]
        have e1 : cutP sgn s ys = ys.take s.head ++ (cd s.mark).map sgn ++ ys.drop (ys.length - s.tail) := by
          unfold cutP
          rw [if_neg (by omega)]
        rw [step, e1] at hk
        have ha : 0 < s.tail → cutG ys (some (-(s.tail : Int))) none = ys.drop (ys.length - s.tail) := fun h => cutG_back _ _ h
        have hb : s.tail = 0 → ys.drop (ys.length - s.tail) = [] := fun h => List.drop_eq_nil_of_le (by omega)
        refine x_ite _ (fun c2 => ?_) (fun c2 => ?_)
        · rw [← ha (by omega)] at hk
          walk_at "dw"
          refine ⟨by rw [List.length_map, cd_len]; omega, gather_all (f := id) ?_ trivial ?_⟩
          · intro x hx Ky hy
            walk_at "dw"
            exact hy
          · rw [List.map_id]
            refine V.x_addL ⟨by rw [sizeLine_eq, List.length_take, List.length_map, cd_len]; omega, ?_⟩
            walk_at "dw"
            refine V.x_addL ⟨by rw [ha (by omega), sizeLine_eq, List.length_append, List.length_take, List.length_map, cd_len, List.length_drop]; omega, ?_⟩
            exact hk _ _ trivial ⟨rfl, _, _, _, _, _, _, _, rfl⟩
        · rw [hb (by omega)] at hk
          walk_at "dw"
          refine ⟨by rw [List.length_map, cd_len]; omega, gather_all (f := id) ?_ trivial ?_⟩
          · intro x hx Ky hy
            walk_at "dw"
            exact hy
          · rw [List.map_id]
            refine V.x_addL ⟨by rw [sizeLine_eq, List.length_take, List.length_map, cd_len]; omega, ?_⟩
            walk_at "dw"
            refine V.x_addL ⟨by rw [sizeLine_eq, List.length_append, List.length_take, List.length_map, cd_len, List.length_nil]; omega, ?_⟩
            exact hk _ _ trivial ⟨rfl, _, _, _, _, _, _, _, rfl⟩
      · walk_at "dw"
        have e2 : cutP sgn s ys = ys := by
          unfold cutP
          rw [if_pos (by omega)]
        rw [step, e2] at hk
        exact (hk _ _ trivial ⟨rfl, _, _, _, _, _, _, _, rfl⟩).2
    · rintro δ M' ⟨rfl, u1, u2, u3, u4, u5, u6, u7, rfl⟩
      rw [List.length_map, List.take_length]
      walk_at "dw"
      exact q
def spLawSeen : DC := fun ds M R => ∃ (row : List Sh) (z : Str), ds = [toldsD row, .str z] ∧ (∀ s ∈ row, s.ok) ∧ z.length ≤ 4000000 ∧ R (.str (showS row z)) M
theorem okD__law_seen (T : Tx K mg) : FnOk P w K mg base L2.CX0 lv__law_seen T.f__law_seen T.d__law_seen p__law_seen (lift (spLawSeen)) := by
  refine fnD T.F__law_seen sc__law_seen (fun ds M R h => ?_) (fun cdv A outer s H E hr => ?_)
  · first | (obtain ⟨rfl, _⟩ := h; rfl) | (obtain ⟨_, rfl, _⟩ := h; rfl) | (obtain ⟨_, _, rfl, _⟩ := h; rfl) | (obtain ⟨_, _, _, rfl, _⟩ := h; rfl) | (obtain ⟨_, _, _, _, rfl, _⟩ := h; rfl) | (obtain ⟨_, _, _, _, _, rfl, _⟩ := h; rfl) | (obtain ⟨_, _, _, _, _, _, rfl, _⟩ := h; rfl) | (obtain ⟨_, _, _, _, _, _, _, rfl, _⟩ := h; rfl) | (obtain ⟨_, _, _, _, _, _, _, _, rfl, _⟩ := h; rfl)
  · have hr64 := hr.units
    have hc_Shortener := T.c_Shortener
    have hi_Shortener := T.i_Shortener
    have hn_Shortener_limit := T.na_Shortener_limit
    have hn_Shortener_head := T.na_Shortener_head
    have hn_Shortener_tail := T.na_Shortener_tail
    have hn_Shortener_mark := T.na_Shortener_mark
    have hn_Shortener_told := T.na_Shortener_told
    refine ⟨_, (pss_one (ps_ret (pe_joinK (K := K) rfl pe_str (pe_call (okD__law_cut T) (hr.mono (by decide)) rfl T.m__law_cut T.F__law_cut.kp T.b__law_cut .nil pass0 (pa_cons (pv 0) (pa_cons (pe_lc (own := [("_law_each", 2)]) rfl sc__law_seen.nd (pi_str (pv 1)) (blkOk_by (N := ["_law_tolds", "_law_line_here", "_law_each"]) (sc := L2.defScope s__law_seen) (by decide +kernel)) (fun _ _ _ _ _ => (pg_name (i := 2) sc__law_seen.nd rfl (by first | exact Or.inl rfl | exact Or.inr rfl))) (fun _ _ _ _ _ => pts_nil) (fun _ _ _ _ _ => (pv 2))) pa_nil)))))), ?_⟩
    refine ⟨_, inferInstance, fun ds M R h => ?_⟩
    obtain ⟨row, z, rfl, hrow, hz, q⟩ := h
    walk_at "dw"
    refine ⟨by rw [List.length_map, cd_len]; omega, ?_⟩
    refine gather_all (f := id) ?_ trivial ?_
    · intro x hx Ky hy
      walk_at "dw"
      exact hy
    · rw [List.map_id]
      walk_at "dw"
      refine ⟨row, _, rfl, hrow, by rw [List.length_map, cd_len]; exact hz, ?_⟩
      rw [cutR_sgn]
      exact join_sgn (cutR_le id hrow _ (by rw [cd_len]; exact hz) (by omega)) q
/-- what the law asks of its judge -/
def spRight : Sp := fun vs H Q _ => ∃ p : Addr, vs = [.ref p] ∧ Pot H p ∧ ∀ H', Same H H' → Q (.bl true) H'
end
end G
namespace G
open PySem PySem.Spec PyProof.Rows L2 U V
section
variable {P : Program} {w : World} {K : PySem.W.Frag} {mg : Str → Option Value} {base : Heap}
/-- repr(d) != repr(d) -/
theorem repr_two {d : D} {W k : Nat} {M : Mem} {R : QD} (o : okP W k d) (hv : vw M d = d) (hk : k ≤ 40) (hW : W ≤ 1048576) (q : ∀ z, (∀ R2 : QD, R2 (.str z) M → rRepr1 [d] M R2) → R (.str z) M) : rRepr1 [d] M R := by
  obtain ⟨p, e, ho⟩ := o
  refine repr1_of (by rw [hv]; exact ⟨p, e, ho⟩) hk hW fun p' e' => ?_
  refine q _ fun R2 h => repr1_of (by rw [hv]; exact ⟨p, e, ho⟩) hk hW fun p2 e2 => ?_
  rw [e'] at e2
  cases e2
  exact h
end
end G
namespace G
open PySem PySem.Spec PyProof.Rows L2 U V
/-- the member of a family -/
def famS (kind mark : Str) (w : Nat) : Sh :=
  if kind = Str.ofString "end" then ⟨w, w - mark.length, 0, mark⟩ else if kind = Str.ofString "start" then ⟨w, 0, w - mark.length, mark⟩ else ⟨w, (w - mark.length) - (w - mark.length) / 2, (w - mark.length) / 2, mark⟩
theorem fam_ok {kind mark : Str} {w : Nat} (hm : okText 3 mark = true) (hw : w ≤ 40) : (famS kind mark w).ok := by
  unfold famS
  split
  · exact ⟨hw, by show _ - _ ≤ 40; omega, by show 0 ≤ 40; omega, hm⟩
  · split
    · exact ⟨hw, by show 0 ≤ 40; omega, by show _ - _ ≤ 40; omega, hm⟩
    · exact ⟨hw, by show _ - _ - _ ≤ 40; omega, by show (_ - _) / 2 ≤ 40; omega, hm⟩
def kindsL : List Str := [Str.ofString "end", Str.ofString "start", Str.ofString "middle"]
/-- the texts of a list -/
def textsOk (ts : List Str) : Prop := ts.length ≤ 20 ∧ ∀ z ∈ ts, okText 200 z = true
/-- whether a row tells texts apart -/
def apartB (row : List Sh) (ts : List Str) : Bool := decide ((metS ts).length = (metS (ts.map (showS row))).length)
section
variable {P : Program} {w : World} {K : PySem.W.Frag} {mg : Str → Option Value} {base : Heap}
def spCheckMark : DC := fun ds M R => ∃ m : Str, ds = [.str m] ∧ okText 3 m = true ∧ R .non M
theorem okD_check_mark (T : Tx K mg) : FnOk P w K mg base L2.CX0 lv_check_mark T.f_check_mark T.d_check_mark p_check_mark (lift (spCheckMark)) := by
  refine fnD T.F_check_mark sc_check_mark (fun ds M R h => ?_) (fun cdv A outer s H E hr => ?_)
  · first | (obtain ⟨rfl, _⟩ := h; rfl) | (obtain ⟨_, rfl, _⟩ := h; rfl) | (obtain ⟨_, _, rfl, _⟩ := h; rfl) | (obtain ⟨_, _, _, rfl, _⟩ := h; rfl) | (obtain ⟨_, _, _, _, rfl, _⟩ := h; rfl) | (obtain ⟨_, _, _, _, _, rfl, _⟩ := h; rfl) | (obtain ⟨_, _, _, _, _, _, rfl, _⟩ := h; rfl) | (obtain ⟨_, _, _, _, _, _, _, rfl, _⟩ := h; rfl) | (obtain ⟨_, _, _, _, _, _, _, _, rfl, _⟩ := h; rfl)
  · have hr64 := hr.units
    have hc_Shortener := T.c_Shortener
    have hi_Shortener := T.i_Shortener
    have hn_Shortener_limit := T.na_Shortener_limit
    have hn_Shortener_head := T.na_Shortener_head
    have hn_Shortener_tail := T.na_Shortener_tail
    have hn_Shortener_mark := T.na_Shortener_mark
    have hn_Shortener_told := T.na_Shortener_told
    refine ⟨_, (pss_one (ps_if (pt_not (pt_val (pe_call (okD_is_text T) (hr.mono (by decide)) rfl T.m_is_text T.F_is_text.kp T.b_is_text .nil pass0 (pa_cons (pv 0) (pa_cons (C8.pe_gc rfl T.k_MOST_MARK) pa_nil))))) (pss_one ps_never) pss_nil)), ?_⟩
    refine ⟨_, inferInstance, fun ds M R h => ?_⟩
    obtain ⟨m, rfl, hm, q⟩ := h
    have h1 := (okText_iff.mp hm).1
    walk_at "dw"
    refine ⟨_, 3, rfl, .inl ⟨m, rfl, by omega, ?_⟩⟩
    rw [hm]
    walk_at "dw"
    exact q
def spIsListed : DC := fun ds M R => ∃ z : Str, ds = [.str z] ∧ okText 200 z = true ∧ R (.bl true) M
theorem okD_is_listed (T : Tx K mg) : FnOk P w K mg base L2.CX0 lv_is_listed T.f_is_listed T.d_is_listed p_is_listed (lift (spIsListed)) := by
  refine fnD T.F_is_listed sc_is_listed (fun ds M R h => ?_) (fun cdv A outer s H E hr => ?_)
  · first | (obtain ⟨rfl, _⟩ := h; rfl) | (obtain ⟨_, rfl, _⟩ := h; rfl) | (obtain ⟨_, _, rfl, _⟩ := h; rfl) | (obtain ⟨_, _, _, rfl, _⟩ := h; rfl) | (obtain ⟨_, _, _, _, rfl, _⟩ := h; rfl) | (obtain ⟨_, _, _, _, _, rfl, _⟩ := h; rfl) | (obtain ⟨_, _, _, _, _, _, rfl, _⟩ := h; rfl) | (obtain ⟨_, _, _, _, _, _, _, rfl, _⟩ := h; rfl) | (obtain ⟨_, _, _, _, _, _, _, _, rfl, _⟩ := h; rfl)
  · have hr64 := hr.units
    have hc_Shortener := T.c_Shortener
    have hi_Shortener := T.i_Shortener
    have hn_Shortener_limit := T.na_Shortener_limit
    have hn_Shortener_head := T.na_Shortener_head
    have hn_Shortener_tail := T.na_Shortener_tail
    have hn_Shortener_mark := T.na_Shortener_mark
    have hn_Shortener_told := T.na_Shortener_told
    refine ⟨_, (pss_one (ps_ret (pe_call (okD_is_text T) (hr.mono (by decide)) rfl T.m_is_text T.F_is_text.kp T.b_is_text .nil pass0 (pa_cons (pv 0) (pa_cons (C8.pe_gc rfl T.k_MOST_TEXT) pa_nil))))), ?_⟩
    refine ⟨_, inferInstance, fun ds M R h => ?_⟩
    obtain ⟨z, rfl, hz, q⟩ := h
    walk_at "dw"
    refine ⟨.str z, 200, rfl, .inl ⟨z, rfl, by have := (okText_iff.mp hz).1; omega, ?_⟩⟩
    rw [hz]
    exact q
def spCheckTexts (f : Addr) : DC := fun ds M R => ∃ ts : List Str, ds = [.tup (ts.map D.str), .ptr f] ∧ textsOk ts ∧ R .non M
theorem okD_check_list (T : Tx K mg) : FnOk P w K mg base L2.CX0 lv_check_list T.f_check_list T.d_check_list p_check_list (lift (spCheckTexts T.f_is_listed)) := by
  refine fnD T.F_check_list sc_check_list (fun ds M R h => ?_) (fun cdv A outer s H E hr => ?_)
  · first | (obtain ⟨rfl, _⟩ := h; rfl) | (obtain ⟨_, rfl, _⟩ := h; rfl) | (obtain ⟨_, _, rfl, _⟩ := h; rfl) | (obtain ⟨_, _, _, rfl, _⟩ := h; rfl) | (obtain ⟨_, _, _, _, rfl, _⟩ := h; rfl) | (obtain ⟨_, _, _, _, _, rfl, _⟩ := h; rfl) | (obtain ⟨_, _, _, _, _, _, rfl, _⟩ := h; rfl) | (obtain ⟨_, _, _, _, _, _, _, rfl, _⟩ := h; rfl) | (obtain ⟨_, _, _, _, _, _, _, _, rfl, _⟩ := h; rfl)
  · have hr64 := hr.units
    have hc_Shortener := T.c_Shortener
    have hi_Shortener := T.i_Shortener
    have hn_Shortener_limit := T.na_Shortener_limit
    have hn_Shortener_head := T.na_Shortener_head
    have hn_Shortener_tail := T.na_Shortener_tail
    have hn_Shortener_mark := T.na_Shortener_mark
    have hn_Shortener_told := T.na_Shortener_told
    refine ⟨_, (pss_cons (ps_if (PW.pt (pw_or (pt_not (pt_val (pe_callB (call_isiK (K := K) rfl) (by rfl) T.n_isinstance (by decide +kernel) (pa_cons (pv 0) (pa_cons (pe_bt "tuple" rfl T.n_tuple (by decide +kernel)) pa_nil))))) (pw_or1 (pt_cmpR op_gt (pe_callB (call_lenK (K := K) rfl) (by rfl) T.n_len (by decide +kernel) (pa_cons (pv 0) pa_nil)) (C8.pe_gc rfl T.k_MOST_SHELVED) (nomark _))))) (pss_one ps_never) pss_nil)
        (pss_one (ps_for PassesOwn.never rfl (pi_enumT (K := K) rfl rfl T.n_enumerate (pa_cons (pv 0) pa_nil)) (pg_tupK (K := K) (n := 2) rfl rfl (pgs_cons (pg_name (i := 2) sc_check_list.nd rfl (by first | exact Or.inl rfl | exact Or.inr rfl)) (pgs_cons (pg_name (i := 3) sc_check_list.nd rfl (by first | exact Or.inl rfl | exact Or.inr rfl)) pgs_nil))) (pss_one (ps_if (pt_not (pt_val (pe_locD (i := 1) (okD_is_listed T) (hr.mono (by decide)) T.F_is_listed.kp T.b_is_listed (pa_cons (pv 3) pa_nil)))) (pss_one ps_never) pss_nil))))), ?_⟩
    refine ⟨_, inferInstance, fun ds M R h => ?_⟩
    obtain ⟨ts, rfl, ⟨hl, ho⟩, q⟩ := h
    walk_at "dw"
    refine ⟨_, true, .tup _, kit_ty (by decide +kernel), ?_⟩
    walk_at "dw"
    refine loop_inv (fun i δ M' => M' = M ∧ ∃ u v, δ = [some (.tup (ts.map D.str)), some (.ptr T.f_is_listed), u, v]) ⟨rfl, _, _, rfl⟩ ?_ ?_
    · rintro i x δ M' Kc hx ⟨rfl, u, v, rfl⟩ hk
      obtain ⟨s, hs, rfl⟩ : ∃ s, s ∈ ts ∧ x = .tup [.int (i : Nat), .str s] := by
        unfold enumD at hx
        rw [List.getElem?_mapIdx, List.getElem?_map] at hx
        cases hr : ts[i]? with
        | none => rw [hr] at hx; cases hx
        | some s => rw [hr] at hx; cases hx; exact ⟨s, List.mem_of_getElem? hr, rfl⟩
      walk_at "dw"
      refine ⟨rfl, ?_⟩
      walk_at "dw"
      refine ⟨s, rfl, ho s hs, ?_⟩
      walk_at "dw"
      exact (hk _ _ trivial ⟨rfl, _, _, rfl⟩).2
    · rintro δ M' ⟨rfl, _⟩
      exact q
def spMember (C : Addr) : DC := fun ds M R => ∃ (kind mark : Str) (n : Nat), ds = [.str kind, .str mark, .int (n : Nat)] ∧ okText 3 mark = true ∧ mark.length ≤ n ∧ n ≤ 40 ∧ R (shD C (famS kind mark n)) M
theorem okD_member_of (T : Tx K mg) : FnOk P w K mg base L2.CX0 lv_member_of T.f_member_of T.d_member_of p_member_of (lift (spMember T.C_Shortener)) := by
  refine fnD T.F_member_of sc_member_of (fun ds M R h => ?_) (fun cdv A outer s H E hr => ?_)
  · first | (obtain ⟨rfl, _⟩ := h; rfl) | (obtain ⟨_, rfl, _⟩ := h; rfl) | (obtain ⟨_, _, rfl, _⟩ := h; rfl) | (obtain ⟨_, _, _, rfl, _⟩ := h; rfl) | (obtain ⟨_, _, _, _, rfl, _⟩ := h; rfl) | (obtain ⟨_, _, _, _, _, rfl, _⟩ := h; rfl) | (obtain ⟨_, _, _, _, _, _, rfl, _⟩ := h; rfl) | (obtain ⟨_, _, _, _, _, _, _, rfl, _⟩ := h; rfl) | (obtain ⟨_, _, _, _, _, _, _, _, rfl, _⟩ := h; rfl)
  · have hr64 := hr.units
    have hc_Shortener := T.c_Shortener
    have hi_Shortener := T.i_Shortener
    have hn_Shortener_limit := T.na_Shortener_limit
    have hn_Shortener_head := T.na_Shortener_head
    have hn_Shortener_tail := T.na_Shortener_tail
    have hn_Shortener_mark := T.na_Shortener_mark
    have hn_Shortener_told := T.na_Shortener_told
    refine ⟨_, (pss_cons (ps_set (i := 3) sc_member_of.nd rfl (by first | exact Or.inl rfl | exact Or.inr rfl) (pe_op op_sub (pv 2) (pe_callB (call_lenK (K := K) rfl) (by rfl) T.n_len (by decide +kernel) (pa_cons (pv 1) pa_nil))))
        (pss_cons (ps_if (pt_cmpR (op_eqA (K := K) rfl hr64) (pv 0) pe_str (nomark _)) (pss_one (ps_ret (pe_make T.M_Shortener (okF_Shortener___init__ T) (hr.mono (by decide)) rfl T.m_Shortener T.b_Shortener___init__ .nil pass0 (pa_cons (pv 2) (pa_cons (pv 3) (pa_cons pe_int (pa_cons (pv 1) pa_nil))))))) pss_nil)
        (pss_cons (ps_if (pt_cmpR (op_eqA (K := K) rfl hr64) (pv 0) pe_str (nomark _)) (pss_one (ps_ret (pe_make T.M_Shortener (okF_Shortener___init__ T) (hr.mono (by decide)) rfl T.m_Shortener T.b_Shortener___init__ .nil pass0 (pa_cons (pv 2) (pa_cons pe_int (pa_cons (pv 3) (pa_cons (pv 1) pa_nil))))))) pss_nil)
        (pss_one (ps_ret (pe_make T.M_Shortener (okF_Shortener___init__ T) (hr.mono (by decide)) rfl T.m_Shortener T.b_Shortener___init__ .nil pass0 (pa_cons (pv 2) (pa_cons (pe_op op_sub (pv 3) (pe_op op_fdiv (pv 3) pe_int)) (pa_cons (pe_op op_fdiv (pv 3) pe_int) (pa_cons (pv 1) pa_nil)))))))))), ?_⟩
    refine ⟨_, inferInstance, fun ds M R h => ?_⟩
    obtain ⟨kind, mark, n, rfl, hm, h1, h2, q⟩ := h
    have hml := (okText_iff.mp hm).1
    walk_at "dw"
    refine V.x_lenS ⟨by rw [sizeLine_eq]; omega, ?_⟩
    walk_at "dw"
    obtain ⟨r, er⟩ : ∃ r, r = n - mark.length := ⟨_, rfl⟩
    have e1 : (n : Int) - (mark.length : Int) = (r : Nat) := by omega
    have r40 : r ≤ 40 := by omega
    rw [e1]
    refine x_ite _ (fun c => ?_) (fun c => ?_)
    · walk_at "dw"
      refine mk_sh (s := ⟨n, r, 0, mark⟩) ⟨h2, r40, Nat.zero_le _, hm⟩ ?_
      rw [famS, if_pos c, ← er] at q
      exact q
    · walk_at "dw"
      refine x_ite _ (fun c2 => ?_) (fun c2 => ?_)
      · walk_at "dw"
        refine mk_sh (s := ⟨n, 0, r, mark⟩) ⟨h2, Nat.zero_le _, r40, hm⟩ ?_
        rw [famS, if_neg c, if_pos c2, ← er] at q
        exact q
      · walk_at "dw"
        have cdiv2 : ∀ i : Int, CDiv i 2 := fun i => by unfold CDiv; first | decide | omega
        refine ⟨_, _, rfl, rfl, cdiv2 _, ?_⟩
        walk_at "dw"
        refine ⟨_, _, rfl, rfl, cdiv2 _, ?_⟩
        dsimp only
        have e2 : (r : Int) / 2 = ((r / 2 : Nat) : Int) := by omega
        have e3 : (r : Int) - (r : Int) / 2 = ((r - r / 2 : Nat) : Int) := by omega
        rw [e3, e2]
        walk_at "dw"
        refine mk_sh (s := ⟨n, r - r / 2, r / 2, mark⟩) ⟨h2, by show r - r / 2 ≤ 40; omega, by show r / 2 ≤ 40; omega, hm⟩ ?_
        rw [famS, if_neg c, if_neg c2, ← er] at q
        exact q
def spSeenBy (C : Addr) : DC := fun ds M R => ∃ (row : List Sh) (z : Str), ds = [rowD C row, .str z] ∧ (∀ s ∈ row, s.ok) ∧ okText 200 z = true ∧ R (.str (showS row z)) M
theorem okD_seen_by (T : Tx K mg) : FnOk P w K mg base L2.CX0 lv_seen_by T.f_seen_by T.d_seen_by p_seen_by (lift (spSeenBy T.C_Shortener)) := by
  refine fnD T.F_seen_by sc_seen_by (fun ds M R h => ?_) (fun cdv A outer s H E hr => ?_)
  · first | (obtain ⟨rfl, _⟩ := h; rfl) | (obtain ⟨_, rfl, _⟩ := h; rfl) | (obtain ⟨_, _, rfl, _⟩ := h; rfl) | (obtain ⟨_, _, _, rfl, _⟩ := h; rfl) | (obtain ⟨_, _, _, _, rfl, _⟩ := h; rfl) | (obtain ⟨_, _, _, _, _, rfl, _⟩ := h; rfl) | (obtain ⟨_, _, _, _, _, _, rfl, _⟩ := h; rfl) | (obtain ⟨_, _, _, _, _, _, _, rfl, _⟩ := h; rfl) | (obtain ⟨_, _, _, _, _, _, _, _, rfl, _⟩ := h; rfl)
  · have hr64 := hr.units
    have hc_Shortener := T.c_Shortener
    have hi_Shortener := T.i_Shortener
    have hn_Shortener_limit := T.na_Shortener_limit
    have hn_Shortener_head := T.na_Shortener_head
    have hn_Shortener_tail := T.na_Shortener_tail
    have hn_Shortener_mark := T.na_Shortener_mark
    have hn_Shortener_told := T.na_Shortener_told
    refine ⟨_, (pss_one (ps_ret (pe_joinK (K := K) rfl pe_str (pe_call (okD_cut_by T) (hr.mono (by decide)) rfl T.m_cut_by T.F_cut_by.kp T.b_cut_by .nil pass0 (pa_cons (pv 0) (pa_cons (pe_callTy (call_listK (K := K) rfl rfl) (by rfl) T.n_list (by decide +kernel) (pa_cons (pv 1) pa_nil)) pa_nil)))))), ?_⟩
    refine ⟨_, inferInstance, fun ds M R h => ?_⟩
    obtain ⟨row, z, rfl, hrow, hz, q⟩ := h
    have hz1 := (okText_iff.mp hz).1
    walk_at "dw"
    refine V.x_listS ⟨by rw [sizeLine_eq]; omega, ?_⟩
    walk_at "dw"
    refine ⟨row, _, rfl, hrow, by rw [List.length_map, cd_len]; omega, ?_⟩
    rw [cutR_sgn]
    refine join_sgn ?_ q
    exact Nat.le_trans (cutR_le id hrow _ (n := 200) (by rw [cd_len]; exact hz1) (by omega)) (by decide)
def spTold1 (C : Addr) : DC := fun ds M R => ∃ (row : List Sh) (ts : List Str), ds = [rowD C row, .tup (ts.map D.str)] ∧ (∀ s ∈ row, s.ok) ∧ textsOk ts ∧ R (.bl (apartB row ts)) M
theorem okD_is_told (T : Tx K mg) : FnOk P w K mg base L2.CX0 lv_is_told T.f_is_told T.d_is_told p_is_told (lift (spTold1 T.C_Shortener)) := by
  refine fnD T.F_is_told sc_is_told (fun ds M R h => ?_) (fun cdv A outer s H E hr => ?_)
  · first | (obtain ⟨rfl, _⟩ := h; rfl) | (obtain ⟨_, rfl, _⟩ := h; rfl) | (obtain ⟨_, _, rfl, _⟩ := h; rfl) | (obtain ⟨_, _, _, rfl, _⟩ := h; rfl) | (obtain ⟨_, _, _, _, rfl, _⟩ := h; rfl) | (obtain ⟨_, _, _, _, _, rfl, _⟩ := h; rfl) | (obtain ⟨_, _, _, _, _, _, rfl, _⟩ := h; rfl) | (obtain ⟨_, _, _, _, _, _, _, rfl, _⟩ := h; rfl) | (obtain ⟨_, _, _, _, _, _, _, _, rfl, _⟩ := h; rfl)
  · have hr64 := hr.units
    have hc_Shortener := T.c_Shortener
    have hi_Shortener := T.i_Shortener
    have hn_Shortener_limit := T.na_Shortener_limit
    have hn_Shortener_head := T.na_Shortener_head
    have hn_Shortener_tail := T.na_Shortener_tail
    have hn_Shortener_mark := T.na_Shortener_mark
    have hn_Shortener_told := T.na_Shortener_told
    refine ⟨_, (pss_one (ps_ret (pe_cmpR (op_eqA (K := K) rfl hr64) (pe_lenSetS (K := K) rfl rfl T.n_len rfl T.n_set (pv 1)) (pe_lenSetS (K := K) rfl rfl T.n_len rfl T.n_set (pe_lc (own := [("text", 2)]) rfl sc_is_told.nd (pi_tupK (K := K) rfl (pv 1)) (blkOk_by (N := ["row", "texts", "text"]) (sc := L2.defScope s_is_told) (by decide +kernel)) (fun _ _ _ _ _ => (pg_name (i := 2) sc_is_told.nd rfl (by first | exact Or.inl rfl | exact Or.inr rfl))) (fun _ _ _ _ _ => pts_nil) (fun _ _ _ _ _ => (pe_call (okD_seen_by T) (hr.mono (by decide)) rfl T.m_seen_by T.F_seen_by.kp T.b_seen_by .nil pass0 (pa_cons (pv 0) (pa_cons (pv 2) pa_nil)))))) (nomark _)))), ?_⟩
    refine ⟨_, inferInstance, fun ds M R h => ?_⟩
    obtain ⟨row, ts, rfl, hrow, ok, q⟩ := h
    have l20 := ok.1
    walk_at "dw"
    refine V.x_lenSetS ?_
    walk_at "dw"
    refine ⟨ts, .inr rfl, by omega, ?_⟩
    refine V.x_lenSetS ?_
    walk_at "dw"
    refine ⟨by rw [List.length_map]; omega, ?_⟩
    refine gather_all (f := fun d => match d with | .str z => .str (showS row z) | d => d) ?_ trivial ?_
    · intro x hx Ky hy
      obtain ⟨z, hz, rfl⟩ := List.mem_map.mp hx
      walk_at "dw"
      refine ⟨row, z, rfl, hrow, ok.2 z hz, ?_⟩
      exact hy
    rw [List.map_map]
    refine ⟨ts.map (showS row), .inl (.inl (by rw [List.map_map]; rfl)), by rw [List.length_map]; omega, ?_⟩
    walk_at "dw"
    have e : decide (((metS ts).length : Int) = ((metS (ts.map (showS row))).length : Int)) = apartB row ts := decide_eq_decide.mpr (by omega)
    rw [e]
    exact q
def spCheckKind : DC := fun ds M R => ∃ k : Str, ds = [.str k] ∧ k ∈ kindsL ∧ R .non M
theorem okD_check_kind (T : Tx K mg) : FnOk P w K mg base L2.CX0 lv_check_kind T.f_check_kind T.d_check_kind p_check_kind (lift (spCheckKind)) := by
  refine fnD T.F_check_kind sc_check_kind (fun ds M R h => ?_) (fun cdv A outer s H E hr => ?_)
  · first | (obtain ⟨rfl, _⟩ := h; rfl) | (obtain ⟨_, rfl, _⟩ := h; rfl) | (obtain ⟨_, _, rfl, _⟩ := h; rfl) | (obtain ⟨_, _, _, rfl, _⟩ := h; rfl) | (obtain ⟨_, _, _, _, rfl, _⟩ := h; rfl) | (obtain ⟨_, _, _, _, _, rfl, _⟩ := h; rfl) | (obtain ⟨_, _, _, _, _, _, rfl, _⟩ := h; rfl) | (obtain ⟨_, _, _, _, _, _, _, rfl, _⟩ := h; rfl) | (obtain ⟨_, _, _, _, _, _, _, _, rfl, _⟩ := h; rfl)
  · have hr64 := hr.units
    have hc_Shortener := T.c_Shortener
    have hi_Shortener := T.i_Shortener
    have hn_Shortener_limit := T.na_Shortener_limit
    have hn_Shortener_head := T.na_Shortener_head
    have hn_Shortener_tail := T.na_Shortener_tail
    have hn_Shortener_mark := T.na_Shortener_mark
    have hn_Shortener_told := T.na_Shortener_told
    refine ⟨_, (pss_one (ps_if (PW.pt (pw_or (pt_not (pt_val (pe_callB (call_isiK (K := K) rfl) (by rfl) T.n_isinstance (by decide +kernel) (pa_cons (pv 0) (pa_cons (pe_bt "str" rfl T.n_str (by decide +kernel)) pa_nil))))) (pw_or1 (pt_cmpR (op_ninKT (l := [PySem.Str.ofString "end", PySem.Str.ofString "start", PySem.Str.ofString "middle"]) T.q_KINDS) (pv 0) (pe_gref rfl T.m_KINDS) (by rfl))))) (pss_one ps_never) pss_nil)), ?_⟩
    refine ⟨_, inferInstance, fun ds M R h => ?_⟩
    obtain ⟨k, rfl, hk, q⟩ := h
    walk_at "dw"
    refine ⟨_, true, .str _, kit_ty (by decide +kernel), ?_⟩
    walk_at "dw"
    refine ⟨rfl, k, rfl, ?_⟩
    rw [show decide (k ∈ [Str.ofString "end", Str.ofString "start", Str.ofString "middle"]) = true from decide_eq_true hk]
    walk_at "dw"
    exact q
/-- the widths that tell texts apart -/
def widthsL (kind mark : Str) (ts : List Str) : List Nat := ((List.range (41 - mark.length)).map (mark.length + ·)).filter fun w => apartB [famS kind mark w] ts
def spWidths : DC := fun ds M R => ∃ (kind mark : Str) (ts : List Str), ds = [.str kind, .str mark, .tup (ts.map D.str)] ∧ kind ∈ kindsL ∧ okText 3 mark = true ∧ textsOk ts ∧ R (.tup ((widthsL kind mark ts).map fun w => D.int (w : Nat))) M
theorem okD_widths (T : Tx K mg) : FnOk P w K mg base L2.CX0 lv_widths T.f_widths T.d_widths p_widths (lift (spWidths)) := by
  refine fnD T.F_widths sc_widths (fun ds M R h => ?_) (fun cdv A outer s H E hr => ?_)
  · first | (obtain ⟨rfl, _⟩ := h; rfl) | (obtain ⟨_, rfl, _⟩ := h; rfl) | (obtain ⟨_, _, rfl, _⟩ := h; rfl) | (obtain ⟨_, _, _, rfl, _⟩ := h; rfl) | (obtain ⟨_, _, _, _, rfl, _⟩ := h; rfl) | (obtain ⟨_, _, _, _, _, rfl, _⟩ := h; rfl) | (obtain ⟨_, _, _, _, _, _, rfl, _⟩ := h; rfl) | (obtain ⟨_, _, _, _, _, _, _, rfl, _⟩ := h; rfl) | (obtain ⟨_, _, _, _, _, _, _, _, rfl, _⟩ := h; rfl)
  · have hr64 := hr.units
    have hc_Shortener := T.c_Shortener
    have hi_Shortener := T.i_Shortener
    have hn_Shortener_limit := T.na_Shortener_limit
    have hn_Shortener_head := T.na_Shortener_head
    have hn_Shortener_tail := T.na_Shortener_tail
    have hn_Shortener_mark := T.na_Shortener_mark
    have hn_Shortener_told := T.na_Shortener_told
    refine ⟨_, (pss_cons (ps_expr (pe_call (okD_check_kind T) (hr.mono (by decide)) rfl T.m_check_kind T.F_check_kind.kp T.b_check_kind .nil pass0 (pa_cons (pv 0) pa_nil)))
        (pss_cons (ps_expr (pe_call (okD_check_mark T) (hr.mono (by decide)) rfl T.m_check_mark T.F_check_mark.kp T.b_check_mark .nil pass0 (pa_cons (pv 1) pa_nil)))
        (pss_cons (ps_expr (pe_call (okD_check_list T) (hr.mono (by decide)) rfl T.m_check_list T.F_check_list.kp T.b_check_list .nil pass0 (pa_cons (pv 2) (pa_cons (pe_gref rfl T.m_is_listed) pa_nil))))
        (pss_cons (ps_set (i := 3) sc_widths.nd rfl (by first | exact Or.inl rfl | exact Or.inr rfl) (pe_listRg rfl rfl T.n_list (prg_2 rfl T.n_range (pe_callB (call_lenK (K := K) rfl) (by rfl) T.n_len (by decide +kernel) (pa_cons (pv 1) pa_nil)) (pe_op op_addU (C8.pe_gc rfl T.k_MOST_SIGNS) pe_int))))
        (pss_one (ps_ret (pe_tupOfK (K := K) rfl rfl T.n_tuple (pe_lc (own := [("width", 4)]) rfl sc_widths.nd (pi_listK (K := K) rfl (pv 3)) (blkOk_by (N := ["kind", "mark", "texts", "every", "width"]) (sc := L2.defScope s_widths) (by decide +kernel)) (fun _ _ _ _ _ => (pg_name (i := 4) sc_widths.nd rfl (by first | exact Or.inl rfl | exact Or.inr rfl))) (fun _ _ _ _ _ => (pts_one (pt_val (pe_call (okD_is_told T) (hr.mono (by decide)) rfl T.m_is_told T.F_is_told.kp T.b_is_told .nil pass0 (pa_cons (pe_tup (pa_cons (pe_call (okD_member_of T) (hr.mono (by decide)) rfl T.m_member_of T.F_member_of.kp T.b_member_of .nil pass0 (pa_cons (pv 0) (pa_cons (pv 1) (pa_cons (pv 4) pa_nil)))) pa_nil)) (pa_cons (pv 2) pa_nil)))))) (fun _ _ _ _ _ => (pv 4)))))))))), ?_⟩
    refine ⟨_, inferInstance, fun ds M R h => ?_⟩
    obtain ⟨kind, mark, ts, rfl, hk, hm, ok, q⟩ := h
    have hml := (okText_iff.mp hm).1
    walk_at "dw"
    refine ⟨kind, rfl, hk, ?_⟩
    walk_at "dw"
    refine ⟨mark, rfl, hm, ?_⟩
    walk_at "dw"
    refine ⟨ts, rfl, ok, ?_⟩
    walk_at "dw"
    refine V.x_lenS ⟨by rw [sizeLine_eq]; omega, ?_⟩
    walk_at "dw"
    refine ⟨RgOk.of_le (by omega) (by omega) (by omega) (by omega), ?_⟩
    walk_at "dw"
    have e0 : rgD (mark.length : Nat) (40 + 1) = ((List.range (41 - mark.length)).map (mark.length + ·)).map fun w => D.int (w : Nat) := by
      refine List.ext_getElem? fun j => ?_
      by_cases hj : j < 41 - mark.length
      · rw [rgD_get (by rw [rgD_len]; omega), List.getElem?_map, List.getElem?_map, List.getElem?_range hj]
        rfl
      · rw [List.getElem?_eq_none (by rw [rgD_len]; omega), List.getElem?_eq_none (by rw [List.length_map, List.length_map, List.length_range]; omega)]
    rw [e0]
    refine ⟨by rw [List.length_map, List.length_map, List.length_range]; omega, ?_⟩
    refine gather_inv (fun i acc M' => M' = M ∧ acc = ((((List.range (41 - mark.length)).map (mark.length + ·)).take i).filter fun w => apartB [famS kind mark w] ts).map fun w => D.int (w : Nat)) ⟨rfl, rfl⟩ ?_ ?_
    · rintro i x acc M' Ky Kn hx ⟨rfl, rfl⟩ hy hn
      rw [List.getElem?_map] at hx
      obtain ⟨w, hw, rfl⟩ := Option.map_eq_some_iff.mp hx
      have hw2 : mark.length ≤ w ∧ w ≤ 40 := by
        have := List.mem_of_getElem? hw
        obtain ⟨j, hj, rfl⟩ := List.mem_map.mp this
        have := List.mem_range.mp hj
        exact ⟨by omega, by omega⟩
      have et : ((((List.range (41 - mark.length)).map (mark.length + ·)).take (i + 1)).filter fun w => apartB [famS kind mark w] ts) = ((((List.range (41 - mark.length)).map (mark.length + ·)).take i).filter fun w => apartB [famS kind mark w] ts) ++ if apartB [famS kind mark w] ts = true then [w] else [] := by
        rw [U.take_snoc hw, List.filter_append, List.filter_cons, List.filter_nil]
      walk_at "dw"
      refine ⟨kind, mark, w, rfl, hm, hw2.1, hw2.2, ?_⟩
      walk_at "dw"
      refine ⟨[famS kind mark w], ts, rfl, fun s hs => by rw [List.mem_singleton.mp hs]; exact fam_ok hm hw2.2, ok, ?_⟩
      cases c : apartB [famS kind mark w] ts with
      | true =>
        rw [c, if_pos rfl] at et
        walk_at "dw"
        refine (hy _ _ trivial ⟨rfl, ?_⟩).2
        rw [et, List.map_append]
        rfl
      | false =>
        rw [c, if_neg Bool.false_ne_true, List.append_nil] at et
        walk_at "dw"
        exact (hn _ trivial ⟨rfl, by rw [et]⟩).2
    · rintro acc M' ⟨rfl, rfl⟩
      rw [List.length_map, List.take_length]
      walk_at "dw"
      exact q
end
end G
namespace G
open PySem PySem.Spec PyProof.Rows L2 U V
theorem okT_iff {n : Nat} {z : Str} : okText n z = true ↔ (cd z).length ≤ n ∧ ∀ c ∈ cd z, c ∈ U.signs := by rw [okText_iff, cd_len]
theorem okT_to {n : Nat} {z : Str} (h : okText n z = true) (k : Nat) : okText n (cutS z none (some (k : Int))) = true := by
  rw [cutS_to]
  have h1 := okT_iff.mp h
  refine okT_iff.mpr ⟨by rw [cd_ofL, List.length_take]; omega, fun c hc => ?_⟩
  rw [cd_ofL] at hc
  exact h1.2 c (List.mem_of_mem_take hc)
theorem okT_from {n : Nat} {z : Str} (h : okText n z = true) (k : Nat) : okText n (cutS z (some (k : Int)) none) = true := by
  rw [cutS_from]
  have h1 := okT_iff.mp h
  refine okT_iff.mpr ⟨by rw [cd_ofL, List.length_drop]; omega, fun c hc => ?_⟩
  rw [cd_ofL] at hc
  exact h1.2 c (List.mem_of_mem_drop hc)
/-- what is cut out at a place -/
theorem okT_mid {n b : Nat} {z y : Str} (h : okText n z = true) (hy : okText b y = true) (i j : Nat) (hij : i ≤ j) : okText (n + b) (cutS z none (some (i : Int)) ++ y ++ cutS z (some (j : Int)) none) = true := by
  rw [cutS_to, cutS_from]
  have h1 := okT_iff.mp h
  have h2 := okT_iff.mp hy
  refine okT_iff.mpr ⟨by rw [cd_append, cd_append, cd_ofL, cd_ofL, List.length_append, List.length_append, List.length_take, List.length_drop]; omega, fun c hc => ?_⟩
  rw [cd_append, cd_append, cd_ofL, cd_ofL] at hc
  rcases List.mem_append.mp hc with hc | hc
  · exact (List.mem_append.mp hc).elim (fun h => h1.2 c (List.mem_of_mem_take h)) (h2.2 c)
  · exact h1.2 c (List.mem_of_mem_drop hc)
section
variable {P : Program} {w : World} {K : PySem.W.Frag} {mg : Str → Option Value} {base : Heap}
def spLines2 : DC := fun ds M R => ∃ (p : Addr) (m : Nat), ds = [potD p, .int (m : Nat)] ∧ m ≤ 100 ∧ ∀ l : List Str, l.length ≤ m → (∀ z ∈ l, okText 60 z = true) → R (.tup (l.map D.str)) M
theorem okD__law_some_lines (T : Tx K mg) : FnOk P w K mg base L2.CX0 lv__law_some_lines T.f__law_some_lines T.d__law_some_lines p__law_some_lines (lift (spLines2)) := by
  refine fnDW T.F__law_some_lines sc__law_some_lines (fun ds M R h => ?_) (fun cdv A outer s H E hr => ?_)
  · first | (obtain ⟨rfl, _⟩ := h; rfl) | (obtain ⟨_, rfl, _⟩ := h; rfl) | (obtain ⟨_, _, rfl, _⟩ := h; rfl) | (obtain ⟨_, _, _, rfl, _⟩ := h; rfl) | (obtain ⟨_, _, _, _, rfl, _⟩ := h; rfl) | (obtain ⟨_, _, _, _, _, rfl, _⟩ := h; rfl) | (obtain ⟨_, _, _, _, _, _, rfl, _⟩ := h; rfl) | (obtain ⟨_, _, _, _, _, _, _, rfl, _⟩ := h; rfl) | (obtain ⟨_, _, _, _, _, _, _, _, rfl, _⟩ := h; rfl)
  · have hr64 := hr.units
    have hc_Shortener := T.c_Shortener
    have hi_Shortener := T.i_Shortener
    have hn_Shortener_limit := T.na_Shortener_limit
    have hn_Shortener_head := T.na_Shortener_head
    have hn_Shortener_tail := T.na_Shortener_tail
    have hn_Shortener_mark := T.na_Shortener_mark
    have hn_Shortener_told := T.na_Shortener_told
    refine ⟨_, (pss_cons (ps_par (i := 2) (j := 3) rfl sc__law_some_lines.nd rfl rfl (by decide) rfl rfl (pa_cons (pe_call (okD__law_line T) (hr.mono (by decide)) rfl T.m__law_line T.F__law_line.kp T.b__law_line .nil pass0 (pa_cons (pv 0) (pa_cons (pe_call (okD__law_ladle T) (hr.mono (by decide)) rfl T.m__law_ladle T.F__law_ladle.kp T.b__law_ladle .nil pass0 (pa_cons (pv 0) (pa_cons (pe_call (okD__law_one_of T) (hr.mono (by decide)) rfl T.m__law_one_of T.F__law_one_of.kp T.b__law_one_of .nil pass0 (pa_cons (pv 0) (pa_cons (pe_lst (pa_cons pe_int (pa_cons pe_int (pa_cons pe_int pa_nil)))) pa_nil))) pa_nil))) pa_nil))) (pa_cons (pe_lstM pa_nil) pa_nil)) (by rfl))
        (pss_cons (ps_for PassesOwn.never rfl (pi_range1 rfl T.n_range (pa_cons (pe_call (okD__law_ladle T) (hr.mono (by decide)) rfl T.m__law_ladle T.F__law_ladle.kp T.b__law_ladle .nil pass0 (pa_cons (pv 0) (pa_cons (pe_op op_addU (pv 1) pe_int) pa_nil))) pa_nil)) (pg_name (i := 4) sc__law_some_lines.nd rfl (by first | exact Or.inl rfl | exact Or.inr rfl)) (pss_cons (ps_par (i := 5) (j := 6) rfl sc__law_some_lines.nd rfl rfl (by decide) rfl rfl (pa_cons (pe_call (okD__law_ladle T) (hr.mono (by decide)) rfl T.m__law_ladle T.F__law_ladle.kp T.b__law_ladle .nil pass0 (pa_cons (pv 0) (pa_cons pe_int pa_nil))) (pa_cons (pe_call (okD__law_ladle T) (hr.mono (by decide)) rfl T.m__law_ladle T.F__law_ladle.kp T.b__law_ladle .nil pass0 (pa_cons (pv 0) (pa_cons (pe_op op_addU (pe_callB (call_lenK (K := K) rfl) (by rfl) T.n_len (by decide +kernel) (pa_cons (pv 2) pa_nil)) pe_int) pa_nil))) pa_nil)) (by rfl))
        (pss_cons (ps_set (i := 7) sc__law_some_lines.nd rfl (by first | exact Or.inl rfl | exact Or.inr rfl) (pe_op op_addU (pe_op op_addU (pe_slice (sl_Z (K := K) rfl) (pv 2) po_none (po_some (pv 6))) (pe_call (okD__law_line T) (hr.mono (by decide)) rfl T.m__law_line T.F__law_line.kp T.b__law_line .nil pass0 (pa_cons (pv 0) (pa_cons (pe_call (okD__law_ladle T) (hr.mono (by decide)) rfl T.m__law_ladle T.F__law_ladle.kp T.b__law_ladle .nil pass0 (pa_cons (pv 0) (pa_cons pe_int pa_nil))) pa_nil)))) (pe_slice (sl_Z (K := K) rfl) (pv 2) (po_some (pe_op op_addU (pv 6) (pe_call (okD__law_ladle T) (hr.mono (by decide)) rfl T.m__law_ladle T.F__law_ladle.kp T.b__law_ladle .nil pass0 (pa_cons (pv 0) (pa_cons pe_int pa_nil))))) po_none)))
        (pss_one (ps_expr (pe_bm PySem.F.plainAttrs_list PySem.F.slot_list_append PySem.F.type_list_append mt_append (pv 3) (pa_cons (pe_call (okD__law_one_of T) (hr.mono (by decide)) rfl T.m__law_one_of T.F__law_one_of.kp T.b__law_one_of .nil pass0 (pa_cons (pv 0) (pa_cons (pe_lst (pa_cons (pv 2) (pa_cons (pv 7) (pa_cons (pv 7) (pa_cons (pv 7) (pa_cons (pe_call (okD__law_line T) (hr.mono (by decide)) rfl T.m__law_line T.F__law_line.kp T.b__law_line .nil pass0 (pa_cons (pv 0) (pa_cons pe_int pa_nil))) pa_nil)))))) pa_nil))) pa_nil)))))))
        (pss_one (ps_ret (pe_tupOfK (K := K) rfl rfl T.n_tuple (pv 3)))))), ?_⟩
    refine ⟨_, inferInstance, fun ds M R h => ?_⟩
    obtain ⟨p, m, rfl, hm, q⟩ := h
    walk_at "dw"
    refine one_lst fun t ht => ?_
    obtain ⟨b, rfl, b0, b1⟩ : ∃ b : Nat, t = .int b ∧ 0 < b ∧ b ≤ 45 := by
      simp only [List.mem_cons, List.not_mem_nil, or_false] at ht
      rcases ht with rfl | rfl | rfl <;> exact ⟨_, rfl, by decide, by decide⟩
    walk_at "dw"
    refine draw_D (by omega) (by omega) fun n hn => ?_
    walk_at "dw"
    refine ⟨p, n, rfl, by omega, fun z hl hc => ?_⟩
    have zl : z.length ≤ 44 := by rw [← cd_len]; omega
    have oz : okText 44 z = true := okText_iff.mpr ⟨zl, hc⟩
    walk_at "dw"
    intro a ha
    walk_at "dw"
    refine draw_D (by omega) (by omega) fun k hk => ?_
    walk_at "dw"
    refine ⟨by omega, by omega, trivial, ?_⟩
    refine loop_inv (fun i δ M' => (∃ l : List Str, M' = mset M a (.lst (l.map D.str)) ∧ l.length = i ∧ ∀ z ∈ l, okText 60 z = true) ∧ ∃ u4 u5 u6 u7, δ = [some (potD p), some (.int (m : Nat)), some (.str z), some (.ptr a), u4, u5, u6, u7]) ⟨⟨[], rfl, rfl, fun _ h => (by cases h)⟩, _, _, _, _, rfl⟩ ?_ ?_
    · rintro i x δ M' Kc hx ⟨⟨l, rfl, hli, hlo⟩, u4, u5, u6, u7, rfl⟩ hkc
      have hi : i < k := by
        have := (List.getElem?_eq_some_iff.mp hx).1
        rw [rgD_len] at this
        omega
      walk_at "dw"
      refine draw_D (by decide) (by decide) fun way hway => ?_
      walk_at "dw"
      refine V.x_lenS ⟨by rw [sizeLine_eq]; omega, ?_⟩
      walk_at "dw"
      refine draw_D (by omega) (by omega) fun at1 hat => ?_
      walk_at "dw"
      refine V.x_slS ⟨by rw [sizeLine_eq]; omega, ?_⟩
      walk_at "dw"
      refine draw_D (by decide) (by decide) fun n3 hn3 => ?_
      walk_at "dw"
      refine ⟨p, n3, rfl, by omega, fun y hy1 hy2 => ?_⟩
      have oy : okText 2 y = true := okT_iff.mpr ⟨by omega, hy2⟩
      have l1 := (okText_iff.mp (okT_to oz at1)).1
      have l2 := (okText_iff.mp oy).1
      refine V.x_addS ⟨by rw [sizeLine_eq]; omega, ?_⟩
      walk_at "dw"
      refine draw_D (by decide) (by decide) fun n2 hn2 => ?_
      walk_at "dw"
      rw [show (at1 : Int) + (n2 : Int) = ((at1 + n2 : Nat) : Int) by omega]
      refine V.x_slS ⟨by rw [sizeLine_eq]; omega, ?_⟩
      have l3 := (okText_iff.mp (okT_from oz (at1 + n2))).1
      have o3 := okT_mid oz oy at1 (at1 + n2) (by omega)
      refine V.x_addS ⟨by rw [len_append, sizeLine_eq]; omega, ?_⟩
      obtain ⟨v, ev⟩ : ∃ v, v = cutS z none (some (at1 : Int)) ++ y ++ cutS z (some ((at1 + n2 : Nat) : Int)) none := ⟨_, rfl⟩
      rw [← ev] at o3 ⊢
      walk_at "dw"
      refine ⟨a, rfl, ⟨_, mset_same⟩, ?_⟩
      walk_at "dw"
      refine ⟨p, 4, rfl, by decide, fun y4 hy41 hy42 => ?_⟩
      walk_at "dw"
      refine one_lst (fun t ht => ?_) (Nat.zero_lt_succ _) (show 5 < 1000000 by decide)
      obtain ⟨t, rfl, ot⟩ : ∃ t', t = .str t' ∧ okText 60 t' = true := by
        have up {n : Nat} {z : Str} (h : okText n z = true) (hn : n ≤ 60) : okText 60 z = true := okT_iff.mpr ⟨Nat.le_trans (okT_iff.mp h).1 hn, (okT_iff.mp h).2⟩
        simp only [List.mem_cons, List.not_mem_nil, or_false] at ht
        rcases ht with rfl | rfl | rfl | rfl | rfl
        · exact ⟨_, rfl, up oz (by decide)⟩
        · exact ⟨_, rfl, up o3 (by decide)⟩
        · exact ⟨_, rfl, up o3 (by decide)⟩
        · exact ⟨_, rfl, up o3 (by decide)⟩
        · exact ⟨_, rfl, okT_iff.mpr ⟨by omega, hy42⟩⟩
      walk_at "dw"
      refine ⟨_, _, rfl, mset_same, by rw [List.length_map, sizeLine_eq]; omega, ?_⟩
      rw [mset_set]
      refine hkc _ _ trivial ⟨⟨l ++ [t], by rw [List.map_append]; rfl, by rw [List.length_append, hli]; rfl, fun z hz => ?_⟩, _, _, _, _, rfl⟩
      rcases List.mem_append.mp hz with h | h
      · exact hlo z h
      · rw [List.mem_singleton.mp h]; exact ot
    · rintro δ M' ⟨⟨l, rfl, hli, hlo⟩, u4, u5, u6, u7, rfl⟩
      rw [rgD_len] at hli
      walk_at "dw"
      refine ⟨_, .inr (.inr ⟨a, rfl, mset_same⟩), M, mle_set ha, ?_⟩
      exact q l (by omega) hlo
end
end G
namespace G
open PySem PySem.Spec PyProof.Rows L2 U V
theorem mle_trans {M M1 M2 : Mem} (h : Mle M M1) (h2 : Mle M1 M2) : Mle M M2 := fun a mo e => h2 a mo (h a mo e)
theorem okT_up {n m : Nat} {z : Str} (h : okText n z = true) (hn : n ≤ m) : okText m z = true := okT_iff.mpr ⟨Nat.le_trans (okT_iff.mp h).1 hn, (okT_iff.mp h).2⟩
theorem apart_iff2 (row : List Sh) (ts : List Str) : apartB row ts = true ↔ ∀ a ∈ ts, ∀ b ∈ ts, showS row a = showS row b → a = b := by
  unfold apartB
  rw [decide_eq_true_eq]
  exact tells_iff ts (showS row)
theorem valD_put {k k2 : Key} {d : D} : ∀ kvs : List (Key × D), valD (putDk kvs k d) k2 = if k2 = k then some d else valD kvs k2 := by
  have mp : ∀ kvs : List (Key × D), (kvs.any fun kv => decide (kv.1 = k)) = true → valD (kvs.map fun kv => if kv.1 = k then (kv.1, d) else kv) k2 = if k2 = k then some d else valD kvs k2 := by
    intro kvs
    induction kvs with
    | nil => intro h; cases h
    | cons p kvs ih =>
      intro h
      rw [List.map_cons]
      have tail : ∀ kvs : List (Key × D), ¬ k2 = k → valD (kvs.map fun kv => if kv.1 = k then (kv.1, d) else kv) k2 = valD kvs k2 := fun kvs ne => by
        induction kvs with
        | nil => rfl
        | cons p kvs ih2 =>
          rw [List.map_cons]
          by_cases c : p.1 = k
          · rw [if_pos c, valD_neg (p := (p.1, d)) (fun z => ne (by rw [← z, c])), valD_neg (p := p) (fun z => ne (by rw [← z, c])), ih2]
          · rw [if_neg c]
            by_cases c2 : p.1 = k2
            · rw [valD_pos c2, valD_pos c2]
            · rw [valD_neg c2, valD_neg c2, ih2]
      by_cases c : p.1 = k
      · rw [if_pos c]
        by_cases e : k2 = k
        · rw [if_pos e, valD_pos (p := (p.1, d)) (by rw [e]; exact c)]
        · rw [if_neg e, valD_neg (p := (p.1, d)) (fun z => e (by rw [← z, c])), valD_neg (p := p) (fun z => e (by rw [← z, c])), tail kvs e]
      · rw [if_neg c]
        have h2 : (kvs.any fun kv => decide (kv.1 = k)) = true := by
          rw [List.any_cons, decide_eq_false c, Bool.false_or] at h
          exact h
        by_cases c2 : p.1 = k2
        · rw [valD_pos c2, if_neg (fun z => c (by rw [c2, z])), valD_pos c2]
        · rw [valD_neg c2, valD_neg c2, ih h2]
  intro kvs
  unfold putDk
  by_cases c : (kvs.any fun kv => decide (kv.1 = k)) = true
  · rw [if_pos c]; exact mp kvs c
  · rw [if_neg c]
    have ab : ∀ p ∈ kvs, p.1 ≠ k := fun p hp z => c (List.any_eq_true.mpr ⟨p, hp, decide_eq_true z⟩)
    clear c mp
    induction kvs with
    | nil =>
      by_cases e : k2 = k
      · rw [if_pos e]; exact valD_pos (p := (k, d)) e.symm
      · rw [if_neg e]; exact valD_neg (p := (k, d)) (fun z => e z.symm)
    | cons p kvs ih =>
      rw [List.cons_append]
      by_cases c2 : p.1 = k2
      · rw [valD_pos c2, valD_pos c2, if_neg (fun z => ab p List.mem_cons_self (by rw [c2, z]))]
      · rw [valD_neg c2, valD_neg c2, ih fun q hq => ab q (List.mem_cons_of_mem _ hq)]
theorem putDk_len (kvs : List (Key × D)) (k : Key) (d : D) : (putDk kvs k d).length ≤ kvs.length + 1 := by
  unfold putDk
  split
  · rw [List.length_map]; omega
  · rw [List.length_append]; exact Nat.le_refl _
theorem vw_ptr {M : Mem} {b : Addr} {xs : List D} (h : M b = some (.lst xs)) : vw M (.ptr b) = .lst xs := by unfold vw; simp only [h]
theorem ne_nil {M : Mem} {b : Addr} {xs : List D} {R : QD} (h : M b = some (.lst xs)) (o : EqOk (.lst xs)) (q : R (.bl (!xs.isEmpty)) M) : rNe1 (.ptr b) (.lst []) M R := by
  show EqOk (vw M (.ptr b)) ∧ EqOk (vw M (.lst [])) ∧ R (.bl (!D.eqb (vw M (.ptr b)) (vw M (.lst [])))) M
  rw [vw_ptr h]
  refine ⟨o, EqOk.of (okPs.nil 0 0).list (by decide), ?_⟩
  have e : D.eqb (.lst xs) (vw M (.lst [])) = xs.isEmpty := by
    show D.eqb (.lst xs) (.lst []) = xs.isEmpty
    rw [D.eqb]
    cases xs with
    | nil => rw [D.eqbs]; rfl
    | cons a l => simp [D.eqbs]
  rw [e]
  exact q
section
variable {P : Program} {w : World} {K : PySem.W.Frag} {mg : Str → Option Value} {base : Heap}
def firstW : List Nat → D
  | [] => .non
  | w :: _ => .int (w : Nat)
def spNarrowest : DC := fun ds M R => ∃ (kind mark : Str) (ts : List Str), ds = [.str kind, .str mark, .tup (ts.map D.str)] ∧ kind ∈ kindsL ∧ okText 3 mark = true ∧ textsOk ts ∧ R (firstW (widthsL kind mark ts)) M
theorem okD_narrowest (T : Tx K mg) : FnOk P w K mg base L2.CX0 lv_narrowest T.f_narrowest T.d_narrowest p_narrowest (lift (spNarrowest)) := by
  refine fnD T.F_narrowest sc_narrowest (fun ds M R h => ?_) (fun cdv A outer s H E hr => ?_)
  · first | (obtain ⟨rfl, _⟩ := h; rfl) | (obtain ⟨_, rfl, _⟩ := h; rfl) | (obtain ⟨_, _, rfl, _⟩ := h; rfl) | (obtain ⟨_, _, _, rfl, _⟩ := h; rfl) | (obtain ⟨_, _, _, _, rfl, _⟩ := h; rfl) | (obtain ⟨_, _, _, _, _, rfl, _⟩ := h; rfl) | (obtain ⟨_, _, _, _, _, _, rfl, _⟩ := h; rfl) | (obtain ⟨_, _, _, _, _, _, _, rfl, _⟩ := h; rfl) | (obtain ⟨_, _, _, _, _, _, _, _, rfl, _⟩ := h; rfl)
  · have hr64 := hr.units
    have hc_Shortener := T.c_Shortener
    have hi_Shortener := T.i_Shortener
    have hn_Shortener_limit := T.na_Shortener_limit
    have hn_Shortener_head := T.na_Shortener_head
    have hn_Shortener_tail := T.na_Shortener_tail
    have hn_Shortener_mark := T.na_Shortener_mark
    have hn_Shortener_told := T.na_Shortener_told
    refine ⟨_, (pss_cons (ps_set (i := 3) sc_narrowest.nd rfl (by first | exact Or.inl rfl | exact Or.inr rfl) (pe_call (okD_widths T) (hr.mono (by decide)) rfl T.m_widths T.F_widths.kp T.b_widths .nil pass0 (pa_cons (pv 0) (pa_cons (pv 1) (pa_cons (pv 2) pa_nil)))))
        (pss_one (ps_ret (pe_ifExp (pt_cmpR op_gt (pe_callB (call_lenK (K := K) rfl) (by rfl) T.n_len (by decide +kernel) (pa_cons (pv 3) pa_nil)) pe_int (nomark _)) (pe_ix (ix_K (K := K) rfl) (pv 3) pe_int (fun _ _ => rfl)) pe_non)))), ?_⟩
    refine ⟨_, inferInstance, fun ds M R h => ?_⟩
    obtain ⟨kind, mark, ts, rfl, hk, hm, ok, q⟩ := h
    walk_at "dw"
    refine ⟨kind, mark, ts, rfl, hk, hm, ok, ?_⟩
    obtain ⟨ws, ews⟩ : ∃ ws, ws = widthsL kind mark ts := ⟨_, rfl⟩
    rw [← ews] at q ⊢
    cases ws with
    | nil =>
      walk_at "dw"
      exact q
    | cons w ws =>
      walk_at "dw"
      exact ⟨_, _, .inr (.inl rfl), show atI ((w :: ws).map fun w => D.int (w : Nat)) ((0 : Nat) : Int) = some (.int (w : Nat)) from atI_nat rfl, q⟩
def spFamily : DC := fun ds M R => ∃ (kind mark : Str) (n : Nat), ds = [.str kind, .str mark, .int (n : Nat)] ∧ okText 3 mark = true ∧ kind ∈ kindsL ∧ mark.length ≤ n ∧ n ≤ 40 ∧ R (toldD (famS kind mark n)) M
theorem okD__law_family (T : Tx K mg) : FnOk P w K mg base L2.CX0 lv__law_family T.f__law_family T.d__law_family p__law_family (lift (spFamily)) := by
  refine fnD T.F__law_family sc__law_family (fun ds M R h => ?_) (fun cdv A outer s H E hr => ?_)
  · first | (obtain ⟨rfl, _⟩ := h; rfl) | (obtain ⟨_, rfl, _⟩ := h; rfl) | (obtain ⟨_, _, rfl, _⟩ := h; rfl) | (obtain ⟨_, _, _, rfl, _⟩ := h; rfl) | (obtain ⟨_, _, _, _, rfl, _⟩ := h; rfl) | (obtain ⟨_, _, _, _, _, rfl, _⟩ := h; rfl) | (obtain ⟨_, _, _, _, _, _, rfl, _⟩ := h; rfl) | (obtain ⟨_, _, _, _, _, _, _, rfl, _⟩ := h; rfl) | (obtain ⟨_, _, _, _, _, _, _, _, rfl, _⟩ := h; rfl)
  · have hr64 := hr.units
    have hc_Shortener := T.c_Shortener
    have hi_Shortener := T.i_Shortener
    have hn_Shortener_limit := T.na_Shortener_limit
    have hn_Shortener_head := T.na_Shortener_head
    have hn_Shortener_tail := T.na_Shortener_tail
    have hn_Shortener_mark := T.na_Shortener_mark
    have hn_Shortener_told := T.na_Shortener_told
    refine ⟨_, (pss_cons (ps_set (i := 3) sc__law_family.nd rfl (by first | exact Or.inl rfl | exact Or.inr rfl) (pe_op op_sub (pv 2) (pe_callB (call_lenK (K := K) rfl) (by rfl) T.n_len (by decide +kernel) (pa_cons (pv 1) pa_nil))))
        (pss_cons (ps_if (pt_cmpR (op_eqA (K := K) rfl hr64) (pv 0) pe_str (nomark _)) (pss_one (ps_ret (pe_tup (pa_cons (pv 2) (pa_cons (pe_op op_sub (pv 3) (pe_op op_fdiv (pv 3) pe_int)) (pa_cons (pe_op op_fdiv (pv 3) pe_int) (pa_cons (pv 1) pa_nil))))))) pss_nil)
        (pss_one (ps_ret (pe_ifExp (pt_cmpR (op_eqA (K := K) rfl hr64) (pv 0) pe_str (nomark _)) (pe_tup (pa_cons (pv 2) (pa_cons (pv 3) (pa_cons pe_int (pa_cons (pv 1) pa_nil))))) (pe_tup (pa_cons (pv 2) (pa_cons pe_int (pa_cons (pv 3) (pa_cons (pv 1) pa_nil)))))))))), ?_⟩
    refine ⟨_, inferInstance, fun ds M R h => ?_⟩
    obtain ⟨kind, mark, n, rfl, hm, hk, h1, h2, q⟩ := h
    have hml := (okText_iff.mp hm).1
    walk_at "dw"
    refine V.x_lenS ⟨by rw [sizeLine_eq]; omega, ?_⟩
    walk_at "dw"
    obtain ⟨r, er⟩ : ∃ r, r = n - mark.length := ⟨_, rfl⟩
    have e1 : (n : Int) - (mark.length : Int) = (r : Nat) := by omega
    rw [e1]
    have cdiv2 : ∀ i : Int, CDiv i 2 := fun i => by unfold CDiv; omega
    simp only [kindsL, List.mem_cons, List.not_mem_nil, or_false] at hk
    rcases hk with rfl | rfl | rfl
    · rw [decide_eq_false (show ¬ Str.ofString "end" = Str.ofString "middle" by decide +kernel)]
      walk_at "dw"
      rw [decide_eq_true (show Str.ofString "end" = Str.ofString "end" from rfl)]
      walk_at "dw"
      rw [famS, if_pos rfl, ← er] at q
      exact q
    · rw [decide_eq_false (show ¬ Str.ofString "start" = Str.ofString "middle" by decide +kernel)]
      walk_at "dw"
      rw [decide_eq_false (show ¬ Str.ofString "start" = Str.ofString "end" by decide +kernel)]
      walk_at "dw"
      rw [famS, if_neg (by decide +kernel), if_pos rfl, ← er] at q
      exact q
    · rw [decide_eq_true (show Str.ofString "middle" = Str.ofString "middle" from rfl)]
      walk_at "dw"
      refine ⟨_, _, rfl, rfl, cdiv2 _, ?_⟩
      walk_at "dw"
      refine ⟨_, _, rfl, rfl, cdiv2 _, ?_⟩
      dsimp only
      have e2 : (r : Int) / 2 = ((r / 2 : Nat) : Int) := by omega
      have e3 : (r : Int) - (r : Int) / 2 = ((r - r / 2 : Nat) : Int) := by omega
      rw [e3, e2]
      walk_at "dw"
      rw [famS, if_neg (by decide +kernel), if_neg (by decide +kernel), ← er] at q
      exact q
def spIsTold : DC := fun ds M R => ∃ (row : List Sh) (ts : List Str), ds = [toldsD row, .tup (ts.map D.str)] ∧ (∀ s ∈ row, s.ok) ∧ ts.length ≤ 20 ∧ (∀ z ∈ ts, okText 60 z = true) ∧ R (.bl (apartB row ts)) M
theorem okD__law_is_told (T : Tx K mg) : FnOk P w K mg base L2.CX0 lv__law_is_told T.f__law_is_told T.d__law_is_told p__law_is_told (lift (spIsTold)) := by
  refine fnDW T.F__law_is_told sc__law_is_told (fun ds M R h => ?_) (fun cdv A outer s H E hr => ?_)
  · first | (obtain ⟨rfl, _⟩ := h; rfl) | (obtain ⟨_, rfl, _⟩ := h; rfl) | (obtain ⟨_, _, rfl, _⟩ := h; rfl) | (obtain ⟨_, _, _, rfl, _⟩ := h; rfl) | (obtain ⟨_, _, _, _, rfl, _⟩ := h; rfl) | (obtain ⟨_, _, _, _, _, rfl, _⟩ := h; rfl) | (obtain ⟨_, _, _, _, _, _, rfl, _⟩ := h; rfl) | (obtain ⟨_, _, _, _, _, _, _, rfl, _⟩ := h; rfl) | (obtain ⟨_, _, _, _, _, _, _, _, rfl, _⟩ := h; rfl)
  · have hr64 := hr.units
    have hc_Shortener := T.c_Shortener
    have hi_Shortener := T.i_Shortener
    have hn_Shortener_limit := T.na_Shortener_limit
    have hn_Shortener_head := T.na_Shortener_head
    have hn_Shortener_tail := T.na_Shortener_tail
    have hn_Shortener_mark := T.na_Shortener_mark
    have hn_Shortener_told := T.na_Shortener_told
    refine ⟨_, (pss_cons (ps_set (i := 2) sc__law_is_told.nd rfl (by first | exact Or.inl rfl | exact Or.inr rfl) pe_dnewK)
        (pss_cons (ps_for PassesOwn.never rfl (pi_tupK (K := K) rfl (pv 1)) (pg_name (i := 3) sc__law_is_told.nd rfl (by first | exact Or.inl rfl | exact Or.inr rfl)) (pss_cons (ps_if (pt_cmpR (op_neA (K := K) rfl hr64) (pe_dget2 (lt_hu hr64) (pv 2) (pe_call (okD__law_seen T) (hr.mono (by decide)) rfl T.m__law_seen T.F__law_seen.kp T.b__law_seen .nil pass0 (pa_cons (pv 0) (pa_cons (pv 3) pa_nil))) (pv 3) ⟨rfl, rfl, rfl, rfl⟩) (pv 3) (nomark _)) (pss_one (ps_ret pe_bl)) pss_nil)
        (pss_one (ps_dput (lt_hu hr64) (pv 2) (pe_call (okD__law_seen T) (hr.mono (by decide)) rfl T.m__law_seen T.F__law_seen.kp T.b__law_seen .nil pass0 (pa_cons (pv 0) (pa_cons (pv 3) pa_nil))) (pv 3) rfl))))
        (pss_one (ps_ret pe_bl)))), ?_⟩
    refine ⟨_, inferInstance, fun ds M R h => ?_⟩
    obtain ⟨row, ts, rfl, hrow, hl, ho, q⟩ := h
    walk_at "dw"
    refine V.x_dnew fun a ha => ?_
    walk_at "dw"
    refine loop_inv (fun i δ M' => (∃ kvs : List (Key × D), M' = mset M a (.dic kvs) ∧ kvs.length ≤ i ∧ (∀ t ∈ ts.take i, valD kvs (.inr (showS row t)) = some (.str t)) ∧ ∀ z d, valD kvs (.inr z) = some d → ∃ t ∈ ts.take i, showS row t = z ∧ d = .str t) ∧ ∃ u, δ = [some (toldsD row), some (.tup (ts.map D.str)), some (.ptr a), u]) ⟨⟨[], rfl, Nat.le_refl _, fun t h => (by simp at h), fun z d h => (by cases h)⟩, _, rfl⟩ ?_ ?_
    · rintro i x δ M' Kc hx ⟨⟨kvs, rfl, hkl, h1, h2⟩, u, rfl⟩ hk
      rw [List.getElem?_map] at hx
      obtain ⟨t, ht, rfl⟩ := Option.map_eq_some_iff.mp hx
      have ot := ho t (List.mem_of_getElem? ht)
      have tl := (okText_iff.mp ot).1
      have il : i < ts.length := (List.getElem?_eq_some_iff.mp ht).1
      have e3 : ts.take (i + 1) = ts.take i ++ [t] := U.take_snoc ht
      walk_at "dw"
      refine V.x_dget2 ?_
      walk_at "dw"
      refine ⟨a, rfl, ⟨_, mset_same⟩, ?_⟩
      walk_at "dw"
      refine ⟨row, t, rfl, hrow, by omega, ?_⟩
      walk_at "dw"
      refine ⟨kvs, .inr (showS row t), mset_same, rfl, ?_⟩
      have put : ∀ (M2 : Mem) (hM2 : M2 = mset M a (.dic kvs)), (valD kvs (.inr (showS row t)) = none ∨ valD kvs (.inr (showS row t)) = some (.str t)) → Kc [some (toldsD row), some (.tup (ts.map D.str)), some (.ptr a), some (.str t)] (mset M a (.dic (putDk kvs (.inr (showS row t)) (.str t)))) := fun M2 hM2 hv => by
        refine (hk _ _ trivial ⟨⟨_, rfl, by have := putDk_len kvs (.inr (showS row t)) (.str t); omega, fun y hy => ?_, fun z d hd => ?_⟩, _, rfl⟩).2
        · rw [valD_put]
          rw [e3] at hy
          by_cases c : (Sum.inr (showS row y) : Key) = .inr (showS row t)
          · rw [if_pos c]
            rcases List.mem_append.mp hy with hy | hy
            · have := h1 y hy
              rw [c] at this
              rcases hv with hv | hv
              · rw [hv] at this; cases this
              · rw [hv] at this; exact this
            · rw [List.mem_singleton.mp hy]
          · rw [if_neg c]
            rcases List.mem_append.mp hy with hy | hy
            · exact h1 y hy
            · exact (c (by rw [List.mem_singleton.mp hy])).elim
        · rw [valD_put] at hd
          rw [e3]
          split at hd
          · rename_i c
            cases hd
            exact ⟨t, List.mem_append_right _ (List.mem_singleton.mpr rfl), (Sum.inr.inj c).symm, rfl⟩
          · obtain ⟨y, hy, e1, e2⟩ := h2 z d hd
            exact ⟨y, List.mem_append_left _ hy, e1, e2⟩
      cases hv : valD kvs (.inr (showS row t)) with
      | none =>
        dsimp only [Option.getD]
        walk_at "dw"
        rw [decide_eq_true rfl]
        walk_at "dw"
        refine V.x_dput ?_
        walk_at "dw"
        refine ⟨row, t, rfl, hrow, by omega, ?_⟩
        walk_at "dw"
        refine ⟨a, kvs, .inr (showS row t), rfl, mset_same, rfl, by rw [sizeLine_eq]; omega, ?_⟩
        rw [mset_set]
        refine ⟨trivial, put _ rfl (.inl hv)⟩
      | some d =>
        obtain ⟨y, hy, e1, rfl⟩ := h2 _ d hv
        dsimp only [Option.getD]
        walk_at "dw"
        refine x_iten (fun c => ?_) (fun c => ?_)
        · have e : apartB row ts = false := by
            cases cc : apartB row ts with
            | false => rfl
            | true => exact (c ((apart_iff2 row ts).mp cc y (List.mem_of_mem_take hy) t (List.mem_of_getElem? ht) e1)).elim
          walk_at "dw"
          rw [e] at q
          exact ⟨M, mle_set ha, q⟩
        · walk_at "dw"
          refine V.x_dput ?_
          walk_at "dw"
          refine ⟨row, t, rfl, hrow, by omega, ?_⟩
          walk_at "dw"
          refine ⟨a, kvs, .inr (showS row t), rfl, mset_same, rfl, by rw [sizeLine_eq]; omega, ?_⟩
          rw [mset_set]
          refine ⟨trivial, put _ rfl (.inr (by rw [hv, c]))⟩
    · rintro δ M' ⟨⟨kvs, rfl, hkl, h1, h2⟩, u, rfl⟩
      rw [List.length_map, List.take_length] at h1
      have e : apartB row ts = true := (apart_iff2 row ts).mpr fun x hx y hy e => by
        have e1 := h1 x hx
        rw [e, h1 y hy] at e1
        cases e1
        rfl
      walk_at "dw"
      rw [e] at q
      exact ⟨M, mle_set ha, q⟩
theorem okD__law_right (T : Tx K mg) : FnG P w K mg base lv__law_right T.f__law_right T.d__law_right p__law_right (lift (spRightD)) := by
  refine fnDX T.F__law_right sc__law_right (fun ds M R h => ?_) (fun cdv A outer s H E hr hgd => ?_)
  · first | (obtain ⟨rfl, _⟩ := h; rfl) | (obtain ⟨_, rfl, _⟩ := h; rfl) | (obtain ⟨_, _, rfl, _⟩ := h; rfl) | (obtain ⟨_, _, _, rfl, _⟩ := h; rfl) | (obtain ⟨_, _, _, _, rfl, _⟩ := h; rfl) | (obtain ⟨_, _, _, _, _, rfl, _⟩ := h; rfl) | (obtain ⟨_, _, _, _, _, _, rfl, _⟩ := h; rfl) | (obtain ⟨_, _, _, _, _, _, _, rfl, _⟩ := h; rfl) | (obtain ⟨_, _, _, _, _, _, _, _, rfl, _⟩ := h; rfl)
  · have hr64 := hr.units
    have hc_Shortener := T.c_Shortener
    have hi_Shortener := T.i_Shortener
    have hn_Shortener_limit := T.na_Shortener_limit
    have hn_Shortener_head := T.na_Shortener_head
    have hn_Shortener_tail := T.na_Shortener_tail
    have hn_Shortener_mark := T.na_Shortener_mark
    have hn_Shortener_told := T.na_Shortener_told
    refine ⟨_, (pss_cons (ps_for PassesOwn.never rfl (pi_range1 rfl T.n_range (pa_cons pe_int pa_nil)) (pg_name (i := 1) sc__law_right.nd rfl (by first | exact Or.inl rfl | exact Or.inr rfl)) (pss_cons (ps_par (i := 2) (j := 3) rfl sc__law_right.nd rfl rfl (by decide) rfl rfl (pa_cons (pe_call (okD__law_some_lines T) (hr.mono (by decide)) rfl T.m__law_some_lines T.F__law_some_lines.kp T.b__law_some_lines .nil pass0 (pa_cons (pv 0) (pa_cons pe_int pa_nil))) (pa_cons (pe_call (okD__law_one_of T) (hr.mono (by decide)) rfl T.m__law_one_of T.F__law_one_of.kp T.b__law_one_of .nil pass0 (pa_cons (pv 0) (pa_cons (pe_lst (pa_cons pe_str (pa_cons pe_str (pa_cons pe_str (pa_cons pe_str (pa_cons pe_str pa_nil)))))) pa_nil))) pa_nil)) (by rfl))
        (pss_one (ps_for PassesOwn.never rfl (pi_listK (K := K) rfl (pe_lst (pa_cons pe_str (pa_cons pe_str (pa_cons pe_str pa_nil))))) (pg_name (i := 4) sc__law_right.nd rfl (by first | exact Or.inl rfl | exact Or.inr rfl)) (pss_cons (ps_set (i := 5) sc__law_right.nd rfl (by first | exact Or.inl rfl | exact Or.inr rfl) (pe_lstM pa_nil))
        (pss_cons (ps_for PassesOwn.never rfl (pi_range2 rfl T.n_range (pa_cons (pe_callB (call_lenK (K := K) rfl) (by rfl) T.n_len (by decide +kernel) (pa_cons (pv 3) pa_nil)) (pa_cons pe_int pa_nil))) (pg_name (i := 6) sc__law_right.nd rfl (by first | exact Or.inl rfl | exact Or.inr rfl)) (pss_one (ps_if (pt_val (pe_call (okD__law_is_told T) (hr.mono (by decide)) rfl T.m__law_is_told T.F__law_is_told.kp T.b__law_is_told .nil pass0 (pa_cons (pe_lst (pa_cons (pe_call (okD__law_family T) (hr.mono (by decide)) rfl T.m__law_family T.F__law_family.kp T.b__law_family .nil pass0 (pa_cons (pv 4) (pa_cons (pv 3) (pa_cons (pv 6) pa_nil)))) pa_nil)) (pa_cons (pv 2) pa_nil)))) (pss_one (ps_expr (pe_bm PySem.F.plainAttrs_list PySem.F.slot_list_append PySem.F.type_list_append mt_append (pv 5) (pa_cons (pv 6) pa_nil)))) pss_nil)))
        (pss_cons (ps_if (pt_cmpR (op_neA (K := K) rfl hr64) (pe_callB (call_reprK (K := K) rfl hgd hr64) (by rfl) T.n_repr (by decide +kernel) (pa_cons (pe_lst (pa_cons (pe_call (okD_widths T) (hr.mono (by decide)) rfl T.m_widths T.F_widths.kp T.b_widths .nil pass0 (pa_cons (pv 4) (pa_cons (pv 3) (pa_cons (pv 2) pa_nil)))) (pa_cons (pe_callN0 (okD_widths T) (hr.mono (by decide)) rfl T.m_widths T.F_widths.kp (T.kb_widths_2_1_0) (pk_cons (pv 2) (pk_cons (pv 3) (pk_cons (pv 4) pk_nil)))) pa_nil))) pa_nil)) (pe_callB (call_reprK (K := K) rfl hgd hr64) (by rfl) T.n_repr (by decide +kernel) (pa_cons (pe_op op_rep (pe_lst (pa_cons (pe_tupOfK (K := K) rfl rfl T.n_tuple (pv 5)) pa_nil)) pe_int) pa_nil)) (nomark _)) (pss_one (ps_ret pe_bl)) pss_nil)
        (pss_cons (ps_set (i := 7) sc__law_right.nd rfl (by first | exact Or.inl rfl | exact Or.inr rfl) (pe_ifExp (pt_cmpR (op_neA (K := K) rfl hr64) (pv 5) (pe_lst pa_nil) (nomark _)) (pe_ix (ix_K (K := K) rfl) (pv 5) pe_int (fun _ _ => rfl)) pe_non))
        (pss_cons (ps_set (i := 8) sc__law_right.nd rfl (by first | exact Or.inl rfl | exact Or.inr rfl) (pe_lst (pa_cons (pe_call (okD_narrowest T) (hr.mono (by decide)) rfl T.m_narrowest T.F_narrowest.kp T.b_narrowest .nil pass0 (pa_cons (pv 4) (pa_cons (pv 3) (pa_cons (pv 2) pa_nil)))) (pa_cons (pe_callN0 (okD_narrowest T) (hr.mono (by decide)) rfl T.m_narrowest T.F_narrowest.kp (T.kb_narrowest_2_1_0) (pk_cons (pv 2) (pk_cons (pv 3) (pk_cons (pv 4) pk_nil)))) pa_nil))))
        (pss_one (ps_if (pt_cmpR (op_neA (K := K) rfl hr64) (pe_callB (call_reprK (K := K) rfl hgd hr64) (by rfl) T.n_repr (by decide +kernel) (pa_cons (pv 8) pa_nil)) (pe_callB (call_reprK (K := K) rfl hgd hr64) (by rfl) T.n_repr (by decide +kernel) (pa_cons (pe_lst (pa_cons (pv 7) (pa_cons (pv 7) pa_nil))) pa_nil)) (nomark _)) (pss_one (ps_ret pe_bl)) pss_nil)))))))))))
        (pss_one (ps_ret pe_bl))), ?_⟩
    refine ⟨_, inferInstance, fun ds M R h => ?_⟩
    obtain ⟨p, rfl, k⟩ := h
    walk_at "dw"
    refine ⟨by decide, by decide, trivial, ?_⟩
    refine loop_inv (fun i δ M' => Mle M M' ∧ ∃ u1 u2 u3 u4 u5 u6 u7 u8, δ = [some (potD p), u1, u2, u3, u4, u5, u6, u7, u8]) ⟨mle_refl, _, _, _, _, _, _, _, _, rfl⟩ ?_ ?_
    · rintro i x δ M' Kc hx ⟨hle, u1, u2, u3, u4, u5, u6, u7, u8, rfl⟩ hk
      walk_at "dw"
      refine ⟨p, 12, rfl, by decide, fun ts hl ho => ?_⟩
      walk_at "dw"
      refine one_lst fun x1 hx1 => ?_
      obtain ⟨mark, rfl, om⟩ : ∃ m, x1 = .str m ∧ okText 3 m = true := by
        simp only [List.mem_cons, List.not_mem_nil, or_false] at hx1
        rcases hx1 with rfl | rfl | rfl | rfl | rfl <;> exact ⟨_, rfl, by decide +kernel⟩
      have ml := (okText_iff.mp om).1
      have ok : textsOk ts := ⟨by omega, fun z hz => okT_up (ho z hz) (by decide)⟩
      walk_at "dw"
      refine loop_inv (fun i2 δ2 M2 => Mle M' M2 ∧ ∃ w4 w5 w6 w7 w8, δ2 = [some (potD p), some x, some (.tup (ts.map D.str)), some (.str mark), w4, w5, w6, w7, w8]) ⟨mle_refl, _, _, _, _, _, rfl⟩ ?_ ?_
      · rintro i2 x2 δ2 M2 Kc2 hx2 ⟨hle2, w4, w5, w6, w7, w8, rfl⟩ hk2
        obtain ⟨kind, hki, rfl⟩ : ∃ kd, kindsL[i2]? = some kd ∧ x2 = .str kd := by
          rw [show [D.str (Str.ofString "end"), D.str (Str.ofString "start"), D.str (Str.ofString "middle")] = kindsL.map D.str from rfl, List.getElem?_map] at hx2
          obtain ⟨z, h1, h2⟩ := Option.map_eq_some_iff.mp hx2
          exact ⟨z, h1, h2.symm⟩
        have hkd := List.mem_of_getElem? hki
        walk_at "dw"
        intro c hc
        walk_at "dw"
        refine V.x_lenS ⟨by rw [sizeLine_eq]; omega, ?_⟩
        walk_at "dw"
        refine ⟨⟨by omega, by omega, by omega, by omega⟩, trivial, ?_⟩
        have rn : (rgD (mark.length : Nat) 41).length = 41 - mark.length := by rw [rgD_len]; omega
        have rg : ∀ j x, (rgD (mark.length : Nat) 41)[j]? = some x → j < 41 - mark.length ∧ x = .int ((mark.length + j : Nat) : Int) := fun j x h => by
          have hj : j < (rgD (mark.length : Nat) 41).length := (List.getElem?_eq_some_iff.mp h).1
          rw [rgD_get hj] at h
          exact ⟨by omega, by rw [← Option.some.inj h]; congr 1⟩
        obtain ⟨wk, ewk⟩ : ∃ wk : Nat → List Nat, wk = fun j => ((List.range j).map (mark.length + ·)).filter fun w => apartB [famS kind mark w] ts := ⟨_, rfl⟩
        have wlen : ∀ j, (wk j).length ≤ j := fun j => by
          rw [ewk]
          exact Nat.le_trans (List.length_filter_le _ _) (by rw [List.length_map, List.length_range]; exact Nat.le_refl _)
        have wst : ∀ j, wk (j + 1) = wk j ++ if apartB [famS kind mark (mark.length + j)] ts = true then [mark.length + j] else [] := fun j => by
          rw [ewk]
          show ((List.range (j + 1)).map (mark.length + ·)).filter _ = _
          rw [List.range_succ, List.map_append, List.filter_append, List.map_cons, List.map_nil, List.filter_cons, List.filter_nil]
        have wall : wk (41 - mark.length) = widthsL kind mark ts := by rw [ewk]; rfl
        have wle : ∀ j, ∀ w ∈ wk j, w ≤ 3 + j := fun j w hw => by
          rw [ewk] at hw
          obtain ⟨h1, _⟩ := List.mem_filter.mp hw
          obtain ⟨i, hi, rfl⟩ := List.mem_map.mp h1
          have := List.mem_range.mp hi
          omega
        have E0 : mset M2 c (.lst []) = mset M2 c (.lst ((wk 0).map fun w => D.int (w : Nat))) := by rw [ewk]; rfl
        rw [E0]
        refine loop_inv (fun j δ3 M3 => M3 = mset M2 c (.lst ((wk j).map fun w => D.int (w : Nat))) ∧ ∃ v6 v7 v8, δ3 = [some (potD p), some x, some (.tup (ts.map D.str)), some (.str mark), some (.str kind), some (.ptr c), v6, v7, v8]) ⟨rfl, _, _, _, rfl⟩ ?_ ?_
        · rintro j x3 δ3 M3 Kc3 hx3 ⟨rfl, v6, v7, v8, rfl⟩ hk3
          obtain ⟨hj, rfl⟩ := rg j x3 hx3
          have fo : (famS kind mark (mark.length + j)).ok := fam_ok om (by omega)
          have ws := wst j
          have wl := wlen j
          walk_at "dw"
          refine ⟨kind, mark, mark.length + j, rfl, om, hkd, by omega, by omega, ?_⟩
          walk_at "dw"
          refine ⟨[famS kind mark (mark.length + j)], ts, rfl, fun s hs => by rw [List.mem_singleton.mp hs]; exact fo, by omega, ho, ?_⟩
          cases cc : apartB [famS kind mark (mark.length + j)] ts with
          | true =>
            rw [cc, if_pos rfl] at ws
            walk_at "dw"
            refine ⟨c, rfl, ⟨_, mset_same⟩, ?_⟩
            walk_at "dw"
            refine ⟨_, _, rfl, mset_same, by rw [List.length_map, sizeLine_eq]; omega, ?_⟩
            rw [mset_set]
            refine hk3 _ _ trivial ⟨?_, _, _, _, rfl⟩
            rw [ws, List.map_append]
            rfl
          | false =>
            rw [cc, if_neg Bool.false_ne_true, List.append_nil] at ws
            walk_at "dw"
            exact (hk3 _ _ trivial ⟨by rw [ws], _, _, _, rfl⟩).2
        · rintro δ3 M3 ⟨rfl, v6, v7, v8, rfl⟩
          rw [rn, wall]
          have wl2 := wlen (41 - mark.length)
          have wle2 := wle (41 - mark.length)
          rw [wall] at wl2 wle2
          obtain ⟨W, eW⟩ : ∃ W, W = widthsL kind mark ts := ⟨_, rfl⟩
          rw [← eW] at wl2 wle2 ⊢
          obtain ⟨WD, eWD⟩ : ∃ WD, WD = W.map fun w => D.int (w : Nat) := ⟨_, rfl⟩
          rw [← eWD]
          have WP : okPs (W.length * 41) 0 WD := by
            have : okPs (WD.length * 41) 0 WD := okPs.all fun d hd => by
              rw [eWD] at hd
              obtain ⟨w, hw, rfl⟩ := List.mem_map.mp hd
              have := wle2 w hw
              exact okP.int (by omega)
            rwa [eWD, List.length_map, ← eWD] at this
          walk_at "dw"
          refine ⟨kind, mark, ts, rfl, hkd, om, ok, ?_⟩
          rw [← eW, ← eWD]
          walk_at "dw"
          refine ⟨rfl, rfl, kind, mark, ts, rfl, hkd, om, ok, ?_⟩
          rw [← eW, ← eWD]
          walk_at "dw"
          have tP : okP 2000 1 (.tup WD) := WP.tuple.mono (by omega) (Nat.le_refl _)
          have gP : okP 5000 2 (.lst [.tup WD, .tup WD]) := ((okPs.cons tP (okPs.cons tP (okPs.nil 0 1))).list).mono (by decide) (Nat.le_refl _)
          refine repr_two gP rfl (by decide) (by decide) fun s1 hs1 => ?_
          walk_at "dw"
          refine ⟨_, .inr (.inr ⟨c, rfl, mset_same⟩), ?_⟩
          walk_at "dw"
          refine x_repL (by decide) (by decide) (Nat.le_of_ble_eq_true rfl) ?_
          walk_at "dw"
          refine hs1 _ ?_
          walk_at "dw"
          rw [decide_eq_true rfl]
          walk_at "dw"
          refine ne_nil mset_same (EqOk.of WP.list (by decide)) ?_
          have fP : okP 200 0 (firstW W) := by
            cases W with
            | nil => exact ⟨_, by rw [firstW, D.py], PyOk.non.mono (by decide) (Nat.le_refl _)⟩
            | cons w W => 
              have := wle2 w List.mem_cons_self
              exact (okP.int (i := (w : Nat)) (by omega)).mono (by decide) (Nat.le_refl _)
          have fP2 : okP 500 1 (.lst [firstW W, firstW W]) := ((okPs.cons fP (okPs.cons fP (okPs.nil 0 0))).list).mono (by decide) (Nat.le_refl _)
          cases W with
          | nil =>
            rw [List.map_nil] at eWD
            subst eWD
            simp only [List.isEmpty_nil, Bool.not_true]
            walk_at "dw"
            walk_at "dw"
            refine ⟨kind, mark, ts, rfl, hkd, om, ok, ?_⟩
            rw [← eW]
            walk_at "dw"
            refine ⟨rfl, rfl, kind, mark, ts, rfl, hkd, om, ok, ?_⟩
            rw [← eW]
            walk_at "dw"
            refine repr_two fP2 rfl (by decide) (by decide) fun s2 hs2 => ?_
            walk_at "dw"
            refine hs2 _ ?_
            walk_at "dw"
            rw [decide_eq_true rfl]
            walk_at "dw"
            exact (hk2 _ _ trivial ⟨mle_trans hle2 (mle_set hc), _, _, _, _, _, rfl⟩).2
          | cons w W =>
            rw [List.map_cons] at eWD
            subst eWD
            simp only [List.isEmpty_cons, Bool.not_false]
            walk_at "dw"
            refine ⟨_, _, .inr (.inr ⟨c, rfl, mset_same⟩), show atI (D.int (w : Nat) :: W.map fun w => D.int (w : Nat)) ((0 : Nat) : Int) = some (.int (w : Nat)) from atI_nat rfl, ?_⟩
            walk_at "dw"
            refine ⟨kind, mark, ts, rfl, hkd, om, ok, ?_⟩
            rw [← eW]
            walk_at "dw"
            refine ⟨rfl, rfl, kind, mark, ts, rfl, hkd, om, ok, ?_⟩
            rw [← eW]
            walk_at "dw"
            refine repr_two fP2 rfl (by decide) (by decide) fun s2 hs2 => ?_
            walk_at "dw"
            refine hs2 _ ?_
            walk_at "dw"
            rw [decide_eq_true rfl]
            walk_at "dw"
            exact (hk2 _ _ trivial ⟨mle_trans hle2 (mle_set hc), _, _, _, _, _, rfl⟩).2
      · rintro δ2 M2 ⟨hle2, w4, w5, w6, w7, w8, rfl⟩
        walk_at "dw"
        exact (hk _ _ trivial ⟨mle_trans hle hle2, _, _, _, _, _, _, _, _, rfl⟩).2
    · rintro δ M' ⟨hle, u1, u2, u3, u4, u5, u6, u7, u8, rfl⟩
      walk_at "dw"
      exact ⟨M, hle, k⟩
theorem ok__law_right (T : Tx K mg) : FnG P w K mg base lv__law_right T.f__law_right T.d__law_right p__law_right spRight := fnG_weak (okD__law_right T) right_lift
end
end G
namespace G
open PySem PySem.Spec PyProof.Rows L2 U
section
variable {P : Program} {w : World} {K : PySem.W.Frag} {mg : Str → Option Value} {base : Heap}
theorem ok_law (T : Tx K mg) : FnG P w K mg base lv_law T.f_law T.d_law p_law (spLaw K) := by
  refine fnG_of T.F_law sc_law (fun vs H Q E h => ?_) (fun cdv A outer s H vs Q E hr hgd h => ?_)
  · obtain ⟨a, ns, rfl, _⟩ := h
    rfl
  · obtain ⟨a, ns, rfl, hS, hl, q⟩ := h
    refine ⟨_, (pss_one (ps_ret (pe_callB (cr_allK (K := K) rfl rfl) (by rfl) T.n_all (by decide +kernel) (pa_cons (pe_lc (own := [("_law_k", 1)]) rfl sc_law.nd (pi_range1 rfl T.n_range (pa_cons (pe_callB (call_maxU rfl) (by rfl) T.n_max (by decide +kernel) (pa_cons pe_int (pa_cons (pe_callB (call_minU rfl) (by rfl) T.n_min (by decide +kernel) (pa_cons (pe_callB (call_lenK (K := K) rfl) (by rfl) T.n_len (by decide +kernel) (pa_cons (pv 0) pa_nil)) (pa_cons pe_int pa_nil))) pa_nil))) pa_nil)) (blkOk_by (N := ["_law_script", "_law_k"]) (sc := L2.defScope s_law) (by decide +kernel)) (fun _ _ _ _ _ => (pg_name (i := 1) sc_law.nd rfl (by first | exact Or.inl rfl | exact Or.inr rfl))) (fun _ _ _ _ _ => pts_nil) (fun _ _ _ _ _ => (pe_callG (ok__law_right T) (hr.mono (by decide)) hgd rfl T.m__law_right T.F__law_right.kp T.b__law_right (pa_cons (pe_call (ok__law_pot T) (hr.mono (by decide)) rfl T.m__law_pot T.F__law_pot.kp T.b__law_pot .nil pass0 (pa_cons (pv 0) (pa_cons (pv 1) pa_nil))) pa_nil)))) pa_nil)))), ?_⟩
    walk_at "go"
    refine ⟨_, .inl hS, ?_⟩
    rw [List.length_map]
    refine lcR (by split <;> split <;> omega) (by split <;> split <;> omega) (fun i ds => ds = List.replicate i (.bl true)) rfl ?_ ?_
    · rintro D0 hD i ds H' hi rfl hE x H2 ⟨rfl, rfl⟩ Ky Kn hy hn
      walk_at "go"
      have hS2 : SqL K H2 a (ns.map V.int) := sql_sm hS (hE.same hD)
      refine ⟨a, ns, i, rfl, hS2, hl, (by revert hi; split <;> split <;> omega), fun p H3 e3 hp => ?_⟩
      walk_at "go"
      exact ⟨p, rfl, hp, fun H4 e4 => hy _ _ (.bl true) (e3.trans e4) (.bl _) rfl (show _ ++ _ = _ by rw [← List.replicate_succ'])⟩
    · rintro D0 hD H' ds rfl hlen hS' hv
      obtain ⟨p3, xs3, e0, _, hp3, hs3⟩ := dt_lst hv
      cases e0
      rw [show ∀ n, List.replicate n (D.bl true) = (List.replicate n true).map D.bl from fun n => (List.map_replicate).symm] at hs3
      have e3 := hs3.bls_eq
      subst e3
      refine ⟨_, _, rfl, SqL.of hp3, ?_⟩
      rw [show ∀ n, (List.replicate n true).all id = true from fun n => by simp]
      exact q _
end
end G
namespace G
open PySem PySem.Spec PyProof.Rows L2 U
theorem law_end {P : Program} {w : World} {K : PySem.W.Frag} {h : Heap} {mg : Str → Option Value} {fa fl : Addr} (X : K.In h) (G0 : h.Ns mainGlobals mg) (hmg : mg "law" = some (.ref fa))  (e : ∃ T : Tx K mg, T.f_law = fl) :
    ∃ fd : FuncData, (∀ (t : Shared) (u : Value), BindsTo t fd ⟨[u], []⟩ [("_law_script", u)]) ∧ ∀ base : Heap, K.In base → base.Ns mainGlobals mg → FnG P w K mg base lv_law fa fd ["_law_script"] (spLaw K) := by
  obtain ⟨T, _⟩ := e
  have q := hmg.symm.trans T.m_law
  cases q
  refine ⟨T.d_law, ?_, fun base _ _ => ok_law T⟩
  obtain ⟨oc, od, kV, doc, pm, an, cdv, ct, osl, efd, lk, hcd⟩ := T.F_law.ex
  intro t u
  rw [efd]
  exact .of_eq rfl
end G
open PySem PySem.W PyProof.Rows
set_option maxRecDepth 100000 in
set_option maxHeartbeats 0 in
theorem PySem.Challenge.cw_shownshort_k28_whole_widths_that_tell_ap_holds : PySem.Challenge.rw_shownshort_k28_whole_widths_that_tell_ap.Holds := by
  w_on; o_law; k_head; (case hw => w_witness2)
  k_fill
  refine U.walkG (l := PySem.Challenge.rw_shownshort_k28_whole_widths_that_tell_ap) (k := G.lv_law) (x := "_law_script") rfl rfl ⟨rfl, by decide, by decide⟩ (fun w h Y => PySem.W.kIn_of Y) ?F
  case F =>
    intro w mg fa h KX G0 hmg
    refine' G.law_end KX G0 hmg (G.all_mk KX G0 ?x_n_abs ?x_n_all ?x_n_bool ?x_n_divmod ?x_n_enumerate ?x_n_int ?x_n_isinstance ?x_n_len ?x_n_list ?x_n_max ?x_n_min ?x_n_range ?x_n_repr ?x_n_set ?x_n_str ?x_n_tuple ?x_k_MOST_SIGNS ?x_k_MOST_MARK ?x_k_MOST_TEXT ?x_k_MOST_SHELVED ?x_k_SIGNS ?x_m_KINDS ?x_q_KINDS ?x_C_Shortener ?x_pg_Shortener ?x_hd_Shortener ?x_po_Shortener ?x_sa_Shortener ?x_mk_Shortener ?x_kc_Shortener ?x_ha_Shortener ?x_hn_Shortener ?x_ht_Shortener ?x_hm_Shortener ?x_me_Shortener ?x_na_Shortener_limit ?x_na_Shortener_head ?x_na_Shortener_tail ?x_na_Shortener_mark ?x_na_Shortener_told ?x_ne_Shortener ?x_a_Shortener___init__ ?x_i_Shortener___init__ ?x_l_Shortener___init__ ?x_c_Shortener___init__ ?x_k_Shortener___init__ ?x_a_Shortener_cut ?x_i_Shortener_cut ?x_l_Shortener_cut ?x_c_Shortener_cut ?x_k_Shortener_cut ?x_a_Shortener___eq__ ?x_i_Shortener___eq__ ?x_l_Shortener___eq__ ?x_c_Shortener___eq__ ?x_k_Shortener___eq__ ?x_a_Shortener___repr__ ?x_i_Shortener___repr__ ?x_l_Shortener___repr__ ?x_c_Shortener___repr__ ?x_k_Shortener___repr__ ?x_a_is_integer ?x_i_is_integer ?x_l_is_integer ?x_c_is_integer ?x_k_is_integer ?x_a_is_text ?x_i_is_text ?x_l_is_text ?x_c_is_text ?x_k_is_text ?x_a_check_number ?x_i_check_number ?x_l_check_number ?x_c_check_number ?x_k_check_number ?x_a_cut_by ?x_i_cut_by ?x_l_cut_by ?x_c_cut_by ?x_k_cut_by ?x_a_check_kind ?x_i_check_kind ?x_l_check_kind ?x_c_check_kind ?x_k_check_kind ?x_a_check_mark ?x_i_check_mark ?x_l_check_mark ?x_c_check_mark ?x_k_check_mark ?x_a_check_list ?x_i_check_list ?x_l_check_list ?x_c_check_list ?x_k_check_list ?x_a_is_listed ?x_i_is_listed ?x_l_is_listed ?x_c_is_listed ?x_k_is_listed ?x_a_member_of ?x_i_member_of ?x_l_member_of ?x_c_member_of ?x_k_member_of ?x_a_seen_by ?x_i_seen_by ?x_l_seen_by ?x_c_seen_by ?x_k_seen_by ?x_a_is_told ?x_i_is_told ?x_l_is_told ?x_c_is_told ?x_k_is_told ?x_a_widths ?x_i_widths ?x_l_widths ?x_c_widths ?x_k_widths ?x_a_narrowest ?x_i_narrowest ?x_l_narrowest ?x_c_narrowest ?x_k_narrowest ?x_a__law_pot ?x_i__law_pot ?x_l__law_pot ?x_c__law_pot ?x_k__law_pot ?x_a__law_ladle ?x_i__law_ladle ?x_l__law_ladle ?x_c__law_ladle ?x_k__law_ladle ?x_a__law_one_of ?x_i__law_one_of ?x_l__law_one_of ?x_c__law_one_of ?x_k__law_one_of ?x_a__law_cut ?x_i__law_cut ?x_l__law_cut ?x_c__law_cut ?x_k__law_cut ?x_a__law_seen ?x_i__law_seen ?x_l__law_seen ?x_c__law_seen ?x_k__law_seen ?x_a__law_line ?x_i__law_line ?x_l__law_line ?x_c__law_line ?x_k__law_line ?x_a__law_some_lines ?x_i__law_some_lines ?x_l__law_some_lines ?x_c__law_some_lines ?x_k__law_some_lines ?x_a__law_family ?x_i__law_family ?x_l__law_family ?x_c__law_family ?x_k__law_family ?x_a__law_is_told ?x_i__law_is_told ?x_l__law_is_told ?x_c__law_is_told ?x_k__law_is_told ?x_a__law_right ?x_i__law_right ?x_l__law_right ?x_c__law_right ?x_k__law_right ?x_a_law ?x_i_law ?x_l_law ?x_c_law ?x_k_law)
    (case x_n_abs => k_is)
    (case x_n_all => k_is)
    (case x_n_bool => k_is)
    (case x_n_divmod => k_is)
    (case x_n_enumerate => k_is)
    (case x_n_int => k_is)
    (case x_n_isinstance => k_is)
    (case x_n_len => k_is)
    (case x_n_list => k_is)
    (case x_n_max => k_is)
    (case x_n_min => k_is)
    (case x_n_range => k_is)
    (case x_n_repr => k_is)
    (case x_n_set => k_is)
    (case x_n_str => k_is)
    (case x_n_tuple => k_is)
    (case x_k_MOST_SIGNS => k_is)
    (case x_k_MOST_MARK => k_is)
    (case x_k_MOST_TEXT => k_is)
    (case x_k_MOST_SHELVED => k_is)
    (case x_k_SIGNS => k_is)
    (case x_m_KINDS => k_is)
    (case x_q_KINDS => k_is)
    (case x_C_Shortener => k_is)
    (case x_pg_Shortener => k_is)
    (case x_hd_Shortener => k_is)
    (case x_po_Shortener => k_is)
    (case x_sa_Shortener => k_is)
    (case x_mk_Shortener => k_is)
    (case x_kc_Shortener => k_is)
    (case x_ha_Shortener => k_is)
    (case x_hn_Shortener => k_is)
    (case x_ht_Shortener => k_is)
    (case x_hm_Shortener => k_is)
    (case x_me_Shortener => first | rfl | k_exc | k_is)
    (case x_na_Shortener_limit => k_is)
    (case x_na_Shortener_head => k_is)
    (case x_na_Shortener_tail => k_is)
    (case x_na_Shortener_mark => k_is)
    (case x_na_Shortener_told => k_is)
    (case x_ne_Shortener => k_is)
    (case x_a_Shortener___init__ => k_is)
    (case x_i_Shortener___init__ => k_is)
    (case x_l_Shortener___init__ => k_is)
    (case x_c_Shortener___init__ => k_is)
    (case x_k_Shortener___init__ => k_is)
    (case x_a_Shortener_cut => k_is)
    (case x_i_Shortener_cut => k_is)
    (case x_l_Shortener_cut => k_is)
    (case x_c_Shortener_cut => k_is)
    (case x_k_Shortener_cut => k_is)
    (case x_a_Shortener___eq__ => k_is)
    (case x_i_Shortener___eq__ => k_is)
    (case x_l_Shortener___eq__ => k_is)
    (case x_c_Shortener___eq__ => k_is)
    (case x_k_Shortener___eq__ => k_is)
    (case x_a_Shortener___repr__ => k_is)
    (case x_i_Shortener___repr__ => k_is)
    (case x_l_Shortener___repr__ => k_is)
    (case x_c_Shortener___repr__ => k_is)
    (case x_k_Shortener___repr__ => k_is)
    (case x_a_is_integer => k_is)
    (case x_i_is_integer => k_is)
    (case x_l_is_integer => k_is)
    (case x_c_is_integer => k_is)
    (case x_k_is_integer => k_is)
    (case x_a_is_text => k_is)
    (case x_i_is_text => k_is)
    (case x_l_is_text => k_is)
    (case x_c_is_text => k_is)
    (case x_k_is_text => k_is)
    (case x_a_check_number => k_is)
    (case x_i_check_number => k_is)
    (case x_l_check_number => k_is)
    (case x_c_check_number => k_is)
    (case x_k_check_number => k_is)
    (case x_a_cut_by => k_is)
    (case x_i_cut_by => k_is)
    (case x_l_cut_by => k_is)
    (case x_c_cut_by => k_is)
    (case x_k_cut_by => k_is)
    (case x_a_check_kind => k_is)
    (case x_i_check_kind => k_is)
    (case x_l_check_kind => k_is)
    (case x_c_check_kind => k_is)
    (case x_k_check_kind => k_is)
    (case x_a_check_mark => k_is)
    (case x_i_check_mark => k_is)
    (case x_l_check_mark => k_is)
    (case x_c_check_mark => k_is)
    (case x_k_check_mark => k_is)
    (case x_a_check_list => k_is)
    (case x_i_check_list => k_is)
    (case x_l_check_list => k_is)
    (case x_c_check_list => k_is)
    (case x_k_check_list => k_is)
    (case x_a_is_listed => k_is)
    (case x_i_is_listed => k_is)
    (case x_l_is_listed => k_is)
    (case x_c_is_listed => k_is)
    (case x_k_is_listed => k_is)
    (case x_a_member_of => k_is)
    (case x_i_member_of => k_is)
    (case x_l_member_of => k_is)
    (case x_c_member_of => k_is)
    (case x_k_member_of => k_is)
    (case x_a_seen_by => k_is)
    (case x_i_seen_by => k_is)
    (case x_l_seen_by => k_is)
    (case x_c_seen_by => k_is)
    (case x_k_seen_by => k_is)
    (case x_a_is_told => k_is)
    (case x_i_is_told => k_is)
    (case x_l_is_told => k_is)
    (case x_c_is_told => k_is)
    (case x_k_is_told => k_is)
    (case x_a_widths => k_is)
    (case x_i_widths => k_is)
    (case x_l_widths => k_is)
    (case x_c_widths => k_is)
    (case x_k_widths => k_is)
    (case x_a_narrowest => k_is)
    (case x_i_narrowest => k_is)
    (case x_l_narrowest => k_is)
    (case x_c_narrowest => k_is)
    (case x_k_narrowest => k_is)
    (case x_a__law_pot => k_is)
    (case x_i__law_pot => k_is)
    (case x_l__law_pot => k_is)
    (case x_c__law_pot => k_is)
    (case x_k__law_pot => k_is)
    (case x_a__law_ladle => k_is)
    (case x_i__law_ladle => k_is)
    (case x_l__law_ladle => k_is)
    (case x_c__law_ladle => k_is)
    (case x_k__law_ladle => k_is)
    (case x_a__law_one_of => k_is)
    (case x_i__law_one_of => k_is)
    (case x_l__law_one_of => k_is)
    (case x_c__law_one_of => k_is)
    (case x_k__law_one_of => k_is)
    (case x_a__law_cut => k_is)
    (case x_i__law_cut => k_is)
    (case x_l__law_cut => k_is)
    (case x_c__law_cut => k_is)
    (case x_k__law_cut => k_is)
    (case x_a__law_seen => k_is)
    (case x_i__law_seen => k_is)
    (case x_l__law_seen => k_is)
    (case x_c__law_seen => k_is)
    (case x_k__law_seen => k_is)
    (case x_a__law_line => k_is)
    (case x_i__law_line => k_is)
    (case x_l__law_line => k_is)
    (case x_c__law_line => k_is)
    (case x_k__law_line => k_is)
    (case x_a__law_some_lines => k_is)
    (case x_i__law_some_lines => k_is)
    (case x_l__law_some_lines => k_is)
    (case x_c__law_some_lines => k_is)
    (case x_k__law_some_lines => k_is)
    (case x_a__law_family => k_is)
    (case x_i__law_family => k_is)
    (case x_l__law_family => k_is)
    (case x_c__law_family => k_is)
    (case x_k__law_family => k_is)
    (case x_a__law_is_told => k_is)
    (case x_i__law_is_told => k_is)
    (case x_l__law_is_told => k_is)
    (case x_c__law_is_told => k_is)
    (case x_k__law_is_told => k_is)
    (case x_a__law_right => k_is)
    (case x_i__law_right => k_is)
    (case x_l__law_right => k_is)
    (case x_c__law_right => k_is)
    (case x_k__law_right => k_is)
    (case x_a_law => k_is)
    (case x_i_law => k_is)
    (case x_l_law => k_is)
    (case x_c_law => k_is)
    (case x_k_law => k_is)
