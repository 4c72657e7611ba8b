import PyProof.Rows.All
import Wide.All
import OpenK.AllK
import Wide.FinOn
import HandS.ForMost
import HandS.Exc
import HandS.TryOnly
import HandS.ExcOwn
import HandS.WordsExc
import HandS.TupAny
import HandS.Zip
import HandS.Style
import HandS.Wide
import HandS.TupMul
import HandS.IsInst
import HandS.Deep
import HandS.Lambda
import KE.DataCmp
import KE.DataEq
import KE.DataFind
import KE.DataIsa
import KE.DataMinMax
import KE.DataAny
import KE.SortData
import HandS.Walk
import HandS.Flow
import HandS.HeadHook1
import KE.GoesEnum
import HandS.ExcIs
import KE.KDflt
import HandS.EndTab
import KE.KNest
import HandS.Dict
import KE.RegKTryMore
import KE.RegKIsAll
import KE.GoesZip
import KE.GoesMore
import HandS.Iter
import HandS.SetFor
import PySem.Challenge.RW_airfield_k38_whole_hours_apart_and_at_wo
set_option Elab.async false
set_option linter.all false
set_option maxRecDepth 100000
set_option maxHeartbeats 5000000
namespace Dl
open PySem.Spec PyProof.Rows PySem L2
structure Fk (P : Program) (w : World) (K : PySem.W.Frag) (mg : Str → Option Value) (base : Heap) (k : Nat) (f : Addr) (fd : FuncData) (ps : List Str) (sp : Sp) : Prop where
  many : ∀ vs H Q E, sp vs H Q E → vs.length = ps.length
  go : ∀ (B : Around) (fs : List PySem.Env) (s : Shared) (H : Hp) (as : Args) (us : List Value) (vs : List V) (Q : VK) (E : XK), Room k B → B.guards = some [] → Env0 P w K mg base B fs s H → BindsTo s fd as (ps.zip us) → Vals vs us → sp vs H Q E →
    codeAny (model P w) B (.call (.ref f) as) (CR (L2.CX P w) fs P w H s Q E) s
variable {P : Program} {w : World} {K : PySem.W.Frag} {mg : Str → Option Value} {base : Heap}
theorem Fk.mono {j k : Nat} {f : Addr} {fd : FuncData} {ps : List Str} {sp : Sp} (F : Fk P w K mg base j f fd ps sp) (h : j ≤ k) : Fk P w K mg base k f fd ps sp :=
  ⟨F.many, fun B fs s H as us vs Q E r => F.go B fs s H as us vs Q E (r.mono h)⟩
theorem fk_of {x q : Str} {st : Stmt} {f : Addr} {fd : FuncData} {N ps : List Str} {k : Nat} {sp : Sp} (F : Fun K x q st f fd) (S : FnScope N ps (defScope st)) (many : ∀ vs H Q E, sp vs H Q E → vs.length = ps.length)
    (body : ∀ (cdv : Value), fd.code = cdv → ∀ (B : Around) (fs : List PySem.Env) (s : Shared) (H : Hp) (vs : List V) (Q : VK) (E : XK), Room k (B.deeper (envOfC q (defScope st) s.heap.objs.size f cdv)) → B.guards = some [] → sp vs H Q E →
      ∃ t, PSs (cxOf (L2.CX P w) P w K mg base N q (defScope st) f cdv B fs s H E) (defBody st) t ∧ t { nx := fun _ H2 => Q .non H2, rt := Q } (start N vs) H) : Fk P w K mg base (k + 1) f fd ps sp := by
  obtain ⟨oc, od, kV, doc, pm, an, cdv, ct, osl, rfl, look, code⟩ := F.ex
  refine ⟨many, fun B fs s H as us vs Q E room gd env bind vals prom => ?_⟩
  have ln := many _ _ _ _ prom
  have inK : K.In s.heap := env.mod.kin.keeps fun b o e => (env.bs b o e).1
  have noLim : s.heap.NoLimit := env.mod.nolimit.keeps fun b o e => (env.bs b o e).1
  refine codeAny_call_function room.depth (inK _ _ look) rfl S.co S.gen rfl (PySem.W.codeRec_of inK code) (bind _ _ _ _ ?_)
  refine wpAny_newFunctionEnv_cells S.kind (fun y hy => ?_) fun ev hev s1 ic => ?_
  · have par := S.par y.1 (List.of_mem_zip (show (y.1, y.2) ∈ ps.zip us from hy)).1
    exact par.imp (fun l => l) fun c => ⟨c, PySem.W.cellsFrom_some _ _ _ (.inl c)⟩
  · subst hev
    refine ⟨noLim.keeps ic.toInCall.keep, codeAny_func ?_⟩
    obtain ⟨t, pss, tq⟩ := body cdv rfl B fs s H vs Q E (room.deeper _) gd prom
    have J := inv_start (CX := L2.CX P w) (E := E) S room.hd env ln vals ic
    refine wpAny_mono (pss.run [] s1 (start N vs) H _ J tq) (fun fl s2 done => ?_) fun _ _ out => out
    cases fl with
    | ret u =>
      obtain ⟨v, σ2, H2, J2, rv, q2⟩ := done
      exact ⟨v, H2, J2.os, J2.bare, J2.base, J2.hok, rv, q2⟩
    | next =>
      obtain ⟨σ2, H2, J2, q2⟩ := done
      exact ⟨.non, H2, J2.os, J2.bare, J2.base, J2.hok, rfl, q2⟩
    | brk =>
      obtain ⟨_, _, _, z⟩ := done
      exact (show False from z).elim
    | cont =>
      obtain ⟨_, _, _, z⟩ := done
      exact (show False from z).elim
section
variable {X : Cx} {k : Nat} {f : Addr} {fd : FuncData} {ps : List Str} {sp : Sp} {W : WX}
theorem run_fk {pins : List (Addr × Obj)} {σ : L2.St} {H : Hp} {s : Shared} {Q : VK} {us : List Value} {vs : List V} (G : Fk X.prog X.w X.K X.mg X.base k f fd ps sp) (room : Room k X.A) (gd : X.A.guards = some []) (bi : Binds X.K fd ps []) (tk : Takes X W)
    (J : Inv X pins σ H s) (r : Vals vs us) (prom : sp vs H Q fun c d H2 => W c d σ H2) : wpAny (model X.prog X.w) X.A (call (.ref f) us) (EP X pins σ Q) X.xe s := by
  have ln : us.length = ps.length := r.length.symm.trans (G.many _ _ _ _ prom)
  have bd := bi s us J.kIn (by rw [List.append_nil]; exact ln)
  rw [List.append_nil] at bd
  refine wpAny_call (codeAny_mono (G.go X.A X.stack s H ⟨us, []⟩ us vs Q _ room gd J.env0 bd r prom) fun res s2 done => ?_)
  cases res with
  | error e => exact tk e s2 (XE.of_call J (fun _ _ _ z => z) done)
  | ok fl =>
    cases fl with
    | ret u => exact J.after done
    | next => exact done.elim
    | brk => exact done.elim
    | cont => exact done.elim
theorem pe_callk {x : Str} {p pos : Pos} {e : Expr} {es : List Expr} {t : TA} (G : Fk X.prog X.w X.K X.mg X.base k f fd ps sp) (room : Room k X.A) (gd : X.A.guards = some []) (tk : Takes X W) (glob : Gl X x) (there : X.mg x = some (.ref f)) (keep : PySem.W.keepIn X.K (.ref f) = true)
    (bi : Binds X.K fd ps []) (ha : PA X (e :: es) t) (nd : (x == ("__debug__" : Str)) = false := by decide) (h1 : starEach (e :: es) X.env = (false, eval e X.env) :: starEach es X.env := by rfl) (h2 : (backTo pos (starEach es X.env)).any (·.1) = false := by rfl) :
    PE X (.Call (.Name x p) (e :: es) [] pos) (fun σ H Q => t σ H fun vs H1 => sp vs H1 Q fun c d H2 => W c d σ H2) := ⟨fun pins s σ H Q J h =>
  wpAny_Call_Name_kw (ld_glob J glob there (PySem.W.callWith_K (h₀ := X.base) J.ok.mod.kin keep (thn (ha.run pos pins s σ H _ J h) fun us s1 ⟨vs, H1, J1, r, q⟩ => ⟨J1.kIn, run_fk G room gd bi tk J1 r q⟩) h1 h2) nd)⟩
theorem pe_callk0 {x : Str} {p pos : Pos} (G : Fk X.prog X.w X.K X.mg X.base k f fd ps sp) (room : Room k X.A) (gd : X.A.guards = some []) (tk : Takes X W) (glob : Gl X x) (there : X.mg x = some (.ref f)) (keep : PySem.W.keepIn X.K (.ref f) = true)
    (bi : Binds X.K fd ps []) (nd : (x == ("__debug__" : Str)) = false := by decide) : PE X (.Call (.Name x p) [] [] pos) (fun σ H Q => sp [] H Q fun c d H2 => W c d σ H2) := ⟨fun pins s σ H Q J h =>
  wpAny_Call_Name_kw (ld_glob J glob there (PySem.W.callWith_K0 J.kIn keep (run_fk (us := []) G room gd bi tk J .nil h)) nd)⟩
end
theorem law_at {k : Nat} {fa a : Addr} {fd : FuncData} {x : Str} {sp : Sp} {s : Shared} {mb : Str → Option Value} {ob : Obj} {H : Hp} (inK : K.In s.heap) (ns : s.heap.Ns mainGlobals mg) (nb : s.heap.Ns builtinsNs mb) (bb : ∀ x : Str, x ≠ "__name__" → mb x = bootBuiltins x)
    (lim : s.heap.NoLimit) (gn : s.gens = #[]) (at_ : s.heap.get? a = some ob) (lst : ∀ es ep, ob.data ≠ .dict es ep) (room : Room k callerA) (F : ∀ base : Heap, K.In base → base.Ns mainGlobals mg → Fk P w K mg base k fa fd [x] sp) (bind : ∀ (s : Shared) (u : Value), BindsTo s fd ⟨[u], []⟩ [(x, u)])
    (hok : HOk P w H s.heap) (only : ∀ b, H b ≠ none → b = a) (fz : H a ≠ none → K.lookup a = none ∧ ∃ u, H a = some (.frz ob u)) (prom : sp [.ref a] H (fun v _ => v = .bl true) fun _ _ _ => False) :
    codeAny (model P w) callerA (.call (.ref fa) ⟨[.ref a], []⟩) (fun r s' => r = .ok (.ret (.bool true)) ∧ OldK s.heap s'.heap ∧ s'.os = s.os ∧ AllBare s'.gens) s := by
  have free : ∀ {b : Addr} {o : Obj}, b ≠ a → H b = none := fun {b _} nb => by
    cases q : H b with
    | none => rfl
    | some u => exact absurd (only b (by rw [q]; simp)) nb
  have dictFree : ∀ {b : Addr} {o : Obj} {es : Array DictEntry} {ep : Nat}, s.heap.get? b = some o → o.data = .dict es ep → H b = none := fun {b o es ep} e d => by
    by_cases z : b = a
    · subst z
      rw [at_] at e
      cases e
      exact absurd d (lst es ep)
    · exact free (o := o) z
  have kFree : ∀ b o, K.lookup b = some o → H b = none := fun b o e => by
    by_cases z : b = a
    · subst z
      cases q : H b with
      | none => rfl
      | some u => rw [(fz (by rw [q]; simp)).1] at e; cases e
    · exact free (o := o) z
  have nsUp : ∀ {b : Addr} {m : Str → Option Value}, s.heap.Ns b m → (hidT s.heap H).Ns b m := fun {b m} ⟨o, es, ep, e, d, r⟩ => ⟨o, es, ep, hidT_get e (dictFree e d), d, r⟩
  have kBase : K.In (hidT s.heap H) := fun b o e => hidT_get (inK b o e) (kFree b o e)
  have md : Mod K mg (hidT s.heap H) := ⟨kBase, nsUp ns, ⟨mb, nsUp nb, bb⟩, lim.imp fun _ z => ⟨nsUp z.1, z.2⟩⟩
  have env : Env0 P w K mg (hidT s.heap H) callerA [] s H := ⟨rfl, md, fun b o e => of_hidT e, Nat.le_of_eq (hidT_size _ _), trivial, fun b hb => absurd (show b ∈ ([] : List Addr) from hb) (by simp), hok, .of_eq gn⟩
  refine codeAny_mono ((F _ kBase (nsUp ns)).go callerA [] s H ⟨[.ref a], []⟩ [.ref a] [.ref a] _ _ room rfl env (bind s (.ref a)) (.cons rfl .nil) prom) fun r s2 done => ?_
  cases r with
  | error e =>
    obtain ⟨_, _, _, _, _, _, _, _, _, _, _, _, z⟩ := (show L2.CX P w [] H s (fun _ _ _ => False) e s2 from done)
    exact z.elim
  | ok fl =>
    cases fl with
    | next => exact (show False from done).elim
    | brk => exact (show False from done).elim
    | cont => exact (show False from done).elim
    | ret u =>
      obtain ⟨v, H2, os2, bare2, un, hok2, rv, qv⟩ := (show CE [] P w H s _ u s2 from done)
      have ev : v = .bl true := qv
      subst ev
      obtain rfl : u = Value.bool true := rv
      refine ⟨rfl, OldK.of_keep fun b o e => ?_, os2, bare2⟩
      cases q : H b with
      | none => exact un.keep b o e q (by intro z; exact absurd (show b ∈ ([] : List Addr) from z) (by simp)) (by simp)
      | some u =>
        have eb := only b (by rw [q]; simp)
        subst eb
        obtain ⟨_, u', z⟩ := fz (by rw [q]; simp)
        have e2 := (show s2.heap.get? b = some ob ∧ _ from hok2 b _ (un.frzs b ob u' z)).1
        rw [at_] at e
        cases e
        exact e2
def scriptH (a : Addr) (o : Obj) (ns : List Int) : Hp := fun b => if b = a then some (.frz o (.lst (ns.map V.int))) else none
theorem scriptH_at {a : Addr} {o : Obj} {ns : List Int} : scriptH a o ns a = some (.frz o (.lst (ns.map V.int))) := if_pos rfl
abbrev D := PyData
abbrev Tb := List (Addr × Str)
def KTup (K : PySem.W.Frag) (a : Addr) (xs : List V) : Prop :=
  ∃ (o : Obj) (its : Array Value) (n : Nat), K.lookup a = some o ∧ o.cls = .type "tuple" ∧ o.data = .seq its n ∧ its.size ≤ sizeLine ∧ Vals xs its.toList
def KLst (K : PySem.W.Frag) (a : Addr) (xs : List V) : Prop :=
  ∃ (o : Obj) (its : Array Value) (n : Nat), K.lookup a = some o ∧ o.cls = .type "list" ∧ o.dict = none ∧ o.data = .seq its n ∧ its.size ≤ sizeLine ∧ Vals xs its.toList
def FqT (K : PySem.W.Frag) (F : Addr → Prop) (H : Hp) (a : Addr) (xs : List V) : Prop := (F a ∧ H a = some (.tup xs)) ∨ KTup K a xs
theorem FqT.sq {K : PySem.W.Frag} {F : Addr → Prop} {H : Hp} {a : Addr} {xs : List V} (h : FqT K F H a xs) : SqT K H a xs := by
  rcases h with ⟨_, h⟩ | h
  · exact .inl (.inl h)
  · exact .inr h
def kD : Key → D
  | .inl i => .int i
  | .inr x => .str x
mutual
inductive Fz (K : PySem.W.Frag) (F : Addr → Prop) (H : Hp) : V → D → Prop
  | non : Fz K F H .non .none
  | bl (b : Bool) : Fz K F H (.bl b) (.bool b)
  | int (i : Int) : Fz K F H (.int i) (.int i)
  | str (x : Str) : Fz K F H (.str x) (.str x)
  | lst {a : Addr} {xs : List V} {ds : List D} : F a → H a = some (.lst xs) → FzAll K F H xs ds → Fz K F H (.ref a) (.list ds)
  | tup {a : Addr} {xs : List V} {ds : List D} : FqT K F H a xs → FzAll K F H xs ds → Fz K F H (.ref a) (.tuple ds)
  | dct {a : Addr} {kvs : List (Key × V)} {es : List (D × D)} : F a → H a = some (.dK kvs) → FzKv K F H kvs es → Fz K F H (.ref a) (.dict es)
inductive FzAll (K : PySem.W.Frag) (F : Addr → Prop) (H : Hp) : List V → List D → Prop
  | nil : FzAll K F H [] []
  | cons {v : V} {vs : List V} {d : D} {ds : List D} : Fz K F H v d → FzAll K F H vs ds → FzAll K F H (v :: vs) (d :: ds)
inductive FzKv (K : PySem.W.Frag) (F : Addr → Prop) (H : Hp) : List (Key × V) → List (D × D) → Prop
  | nil : FzKv K F H [] []
  | cons {k : Key} {v : V} {vs : List (Key × V)} {d : D} {ds : List (D × D)} : Fz K F H v d → FzKv K F H vs ds → FzKv K F H ((k, v) :: vs) ((kD k, d) :: ds)
end
section
variable {K : PySem.W.Frag} {F F' : Addr → Prop} {H H' : Hp}
theorem FqT.ext {a : Addr} {xs : List V} (hs : ∀ a, F a → F' a) (he : ∀ a, F a → H' a = H a) (h : FqT K F H a xs) : FqT K F' H' a xs := by
  rcases h with ⟨h1, h2⟩ | h
  · exact .inl ⟨hs _ h1, (he _ h1).trans h2⟩
  · exact .inr h
mutual
theorem Fz.ext (hs : ∀ a, F a → F' a) (he : ∀ a, F a → H' a = H a) : ∀ (d : D) (v : V), Fz K F H v d → Fz K F' H' v d
  | .none, _, h => by cases h; exact .non
  | .bool b, _, h => by cases h; exact .bl b
  | .int i, _, h => by cases h; exact .int i
  | .str x, _, h => by cases h; exact .str x
  | .list ds, _, h => by
    cases h with
    | lst h1 h2 h3 => exact .lst (hs _ h1) ((he _ h1).trans h2) (FzAll.ext hs he ds _ h3)
  | .tuple ds, _, h => by
    cases h with
    | tup h1 h2 => exact .tup (h1.ext hs he) (FzAll.ext hs he ds _ h2)
  | .dict ds, _, h => by
    cases h with
    | dct h1 h2 h3 => exact .dct (hs _ h1) ((he _ h1).trans h2) (FzKv.ext hs he ds _ h3)
theorem FzAll.ext (hs : ∀ a, F a → F' a) (he : ∀ a, F a → H' a = H a) : ∀ (ds : List D) (vs : List V), FzAll K F H vs ds → FzAll K F' H' vs ds
  | [], _, h => by cases h; exact .nil
  | d :: ds, _, h => by
    cases h with
    | cons h1 h2 => exact .cons (Fz.ext hs he d _ h1) (FzAll.ext hs he ds _ h2)
theorem FzKv.ext (hs : ∀ a, F a → F' a) (he : ∀ a, F a → H' a = H a) : ∀ (ds : List (D × D)) (vs : List (Key × V)), FzKv K F H vs ds → FzKv K F' H' vs ds
  | [], _, h => by cases h; exact .nil
  | (_, d) :: ds, _, h => by
    cases h with
    | cons h1 h2 => exact .cons (Fz.ext hs he d _ h1) (FzKv.ext hs he ds _ h2)
end
theorem FzAll.len : ∀ {vs : List V} {ds : List D}, FzAll K F H vs ds → vs.length = ds.length
  | [], [], _ => rfl
  | _ :: _, _ :: _, .cons _ h => by rw [List.length_cons, List.length_cons, FzAll.len h]
theorem FzAll.get : ∀ {vs : List V} {ds : List D} {i : Nat} {d : D}, FzAll K F H vs ds → ds[i]? = some d → ∃ v, vs[i]? = some v ∧ Fz K F H v d
  | _, _, _, _, .nil, e => by simp at e
  | _ :: _, _ :: _, 0, _, .cons h _, e => by simp at e; subst e; exact ⟨_, rfl, h⟩
  | _ :: _, _ :: _, i + 1, d, .cons _ h, e => by
    obtain ⟨v, h1, h2⟩ := FzAll.get (i := i) (d := d) h (by simpa using e)
    exact ⟨v, by simpa using h1, h2⟩
theorem FzAll.set {v : V} {d : D} (r : Fz K F H v d) : ∀ {vs : List V} {ds : List D} (i : Nat), FzAll K F H vs ds → FzAll K F H (vs.set i v) (ds.set i d)
  | _, _, _, .nil => .nil
  | _, _, 0, .cons _ t => .cons r t
  | _, _, i + 1, .cons q t => .cons q (FzAll.set r i t)
theorem FzAll.append : ∀ {xs ys : List V} {ds es : List D}, FzAll K F H xs ds → FzAll K F H ys es → FzAll K F H (xs ++ ys) (ds ++ es)
  | _, _, _, _, .nil, s => s
  | _, _, _, _, .cons r t, s => .cons r (FzAll.append t s)
theorem FzAll.take : ∀ {xs : List V} {ds : List D} (n : Nat), FzAll K F H xs ds → FzAll K F H (xs.take n) (ds.take n)
  | _, _, 0, _ => .nil
  | _, _, _ + 1, .nil => .nil
  | _, _, n + 1, .cons r t => .cons r (FzAll.take n t)
theorem FzAll.drop : ∀ {xs : List V} {ds : List D} (n : Nat), FzAll K F H xs ds → FzAll K F H (xs.drop n) (ds.drop n)
  | _, _, 0, r => r
  | _, _, _ + 1, .nil => .nil
  | _, _, n + 1, .cons _ t => FzAll.drop n t
end
inductive MO where
  | lst (xs : List D) | dct (es : List (D × D)) | fz (x : D)
abbrev Store := List MO
inductive Ty where
  | int | bool | str | tup | lst | dct
  deriving DecidableEq
def Ty.name : Ty → String
  | .int => "int"
  | .bool => "bool"
  | .str => "str"
  | .tup => "tuple"
  | .lst => "list"
  | .dct => "dict"
structure Ext (n : Nat) (φ : Nat → Addr) (F : Addr → Prop) (H : Hp) (φ' : Nat → Addr) (F' : Addr → Prop) (H' : Hp) : Prop where
  sub : ∀ a, F a → F' a
  same : ∀ a, F a → H' a = H a
  loc : ∀ i, i < n → φ' i = φ i
structure LamP where
  P : (Nat → Addr) → (Addr → Prop) → Hp → Nat → V → Prop
  ext : ∀ {n m : Nat} {φ : Nat → Addr} {F : Addr → Prop} {H : Hp} {φ' : Nat → Addr} {F' : Addr → Prop} {H' : Hp} (v : V), Ext n φ F H φ' F' H' → n ≤ m → P φ F H n v → P φ' F' H' m v
inductive Vl where
  | d (x : D) | loc (n : Nat) | glo (x : Str) | ty (T : Ty) | tys (Ts : List Ty) | scr (xs : List Int) | xa (a : Addr) | lam (p : LamP) | glos (xs : List Str)
abbrev Env := List (Option Vl)
structure Xn where
  cls : Str
  fs : List (Str × D)
inductive Res (α : Type) where
  | ok (a : α) (S : Store) | ex (e : Xn) (S : Store) | bad
def Res.bind {α β : Type} (r : Res α) (k : α → Store → Res β) : Res β := match r with
  | .ok a S => k a S
  | .ex e S => .ex e S
  | .bad => .bad
@[simp] theorem bind_ok {α β : Type} (a : α) (S : Store) (k : α → Store → Res β) : (Res.ok a S).bind k = k a S := rfl
@[simp] theorem bind_ex {α β : Type} (e : Xn) (S : Store) (k : α → Store → Res β) : (Res.ex e S : Res α).bind k = .ex e S := rfl
@[simp] theorem bind_bad {α β : Type} (k : α → Store → Res β) : (Res.bad : Res α).bind k = .bad := rfl
abbrev Ev := Env → Store → Res Vl
abbrev Tv := Env → Store → Res Bool
abbrev Av := Env → Store → Res (List Vl)
inductive SRes where
  | nx (ρ : Env) (S : Store) | ret (v : Vl) (S : Store) | bk (ρ : Env) (S : Store) | ct (ρ : Env) (S : Store) | ex (e : Xn) (ρ : Env) (S : Store) | bad
abbrev Sv := Env → Store → SRes
abbrev Fn := List Vl → Store → Res Vl
section
variable (τ : Tb) (K : PySem.W.Frag) (mg : Str → Option Value)
def MOk (F : Addr → Prop) (H : Hp) (a : Addr) : MO → Prop
  | .lst ds => ¬ F a ∧ ∃ xs, H a = some (.lst xs) ∧ FzAll K F H xs ds
  | .dct es => ¬ F a ∧ ∃ kvs, H a = some (.dK kvs) ∧ FzKv K F H kvs es
  | .fz x => Fz K F H (.ref a) x ∧ H a ≠ none
def MO.live : MO → Bool
  | .fz _ => false
  | _ => true
structure SG (φ : Nat → Addr) (F : Addr → Prop) (H : Hp) (S : Store) : Prop where
  dom : ∀ a, F a → H a ≠ none
  obj : ∀ i o, S[i]? = some o → MOk K F H (φ i) o
  inj : ∀ i j, i < S.length → j < S.length → φ i = φ j → i = j
  tab : LamX.Tabs τ H
  ntab : ∀ q ∈ τ, ¬ F q.1
  only : ∀ a ps, H a = some (.tbl ps) → ∃ q ∈ τ, q.1 = a
  codes : ∀ a c q, H a = some (LamX.CodeO c q) → F a
def RepG : List V → List Str → Prop
  | [], [] => True
  | v :: vs, x :: xs => (∃ u, mg x = some u ∧ RelV v u) ∧ RepG vs xs
  | _, _ => False
def RepV (φ : Nat → Addr) (F : Addr → Prop) (H : Hp) (n : Nat) (v : V) : Vl → Prop
  | .d x => Fz K F H v x
  | .loc i => i < n ∧ v = .ref (φ i)
  | .glo x => ∃ u, mg x = some u ∧ RelV v u
  | .ty T => v = .ty T.name
  | .tys Ts => ∃ a, v = .ref a ∧ F a ∧ H a = some (.tup (Ts.map fun T => V.ty T.name))
  | .scr xs => ∃ a, v = .ref a ∧ ((F a ∧ ∃ o, H a = some (.frz o (.lst (xs.map V.int)))) ∨ KLst K a (xs.map V.int))
  | .xa a => v = .ref a
  | .lam p => p.P φ F H n v
  | .glos xs => ∃ a vs, v = .ref a ∧ F a ∧ H a = some (.tup vs) ∧ RepG mg vs xs
def RepVs (φ : Nat → Addr) (F : Addr → Prop) (H : Hp) (n : Nat) : List V → List Vl → Prop
  | [], [] => True
  | v :: vs, x :: xs => RepV K mg φ F H n v x ∧ RepVs φ F H n vs xs
  | _, _ => False
def Slots (φ : Nat → Addr) (F : Addr → Prop) (H : Hp) (n : Nat) (σ : L2.St) (ρ : Env) : Prop :=
  σ.length = ρ.length ∧ ∀ (i : Nat) (x : Vl), ρ[i]? = some (some x) → ∃ v, σ[i]? = some (some v) ∧ RepV K mg φ F H n v x
def RepX (F : Addr → Prop) (H : Hp) (c : Value) (od : Option Addr) (e : Xn) : Prop :=
  mg e.cls = some c ∧ match e.fs with
    | [] => od = none
    | fs => ∃ d vs, od = some d ∧ H d = some (.xd vs) ∧ vs.map (·.1) = fs.map (·.1) ∧ FzAll K F H (vs.map (·.2)) (fs.map (·.2))
structure Now (n : Nat) (φ : Nat → Addr) (F : Addr → Prop) (H : Hp) (φ' : Nat → Addr) (F' : Addr → Prop) (H' : Hp) (S' : Store) : Prop where
  ext : Ext n φ F H φ' F' H'
  sg : SG τ K φ' F' H' S'
  le : n ≤ S'.length
  rest : ∀ a, H a ≠ none → (∀ ps, H a ≠ some (.tbl ps)) → (∀ i, i < n → φ i ≠ a) → H' a = H a
  alive : ∀ a, H a ≠ none → H' a ≠ none
  new : ∀ i, n ≤ i → i < S'.length → H (φ' i) = none
  fnew : ∀ a, F' a → F a ∨ H a = none ∨ ∃ i, i < n ∧ φ i = a
abbrev XW := Value → Option Addr → Hp → Prop
def PostG {α β : Type} (R : (Nat → Addr) → (Addr → Prop) → Hp → Nat → β → α → Prop) (W : XW) (n : Nat) (φ : Nat → Addr) (F : Addr → Prop) (H : Hp) (Q : β → Hp → Prop) : Res α → Prop
  | .ok v S' => ∀ φ' F' H', Now τ K n φ F H φ' F' H' S' → ∀ x, R φ' F' H' S'.length x v → Q x H'
  | .ex e S' => ∀ φ' F' H', Now τ K n φ F H φ' F' H' S' → ∀ c od, RepX K mg F' H' c od e → W c od H'
  | .bad => False
abbrev RepB : (Nat → Addr) → (Addr → Prop) → Hp → Nat → Bool → Bool → Prop := fun _ _ _ _ x v => x = v
abbrev Post : XW → Nat → (Nat → Addr) → (Addr → Prop) → Hp → VK → Res Vl → Prop := PostG τ K mg (RepV K mg)
abbrev PostT : XW → Nat → (Nat → Addr) → (Addr → Prop) → Hp → (Bool → Hp → Prop) → Res Bool → Prop := PostG τ K mg RepB
abbrev PostA : XW → Nat → (Nat → Addr) → (Addr → Prop) → Hp → (List V → Hp → Prop) → Res (List Vl) → Prop := PostG τ K mg (RepVs K mg)
def PostS (W : WX) (n : Nat) (φ : Nat → Addr) (F : Addr → Prop) (H : Hp) (E : Ends) : SRes → Prop
  | .nx ρ S' => ∀ φ' F' H', Now τ K n φ F H φ' F' H' S' → ∀ σ', Slots K mg φ' F' H' S'.length σ' ρ → E.nx σ' H'
  | .bk ρ S' => ∀ φ' F' H', Now τ K n φ F H φ' F' H' S' → ∀ σ', Slots K mg φ' F' H' S'.length σ' ρ → E.bk σ' H'
  | .ct ρ S' => ∀ φ' F' H', Now τ K n φ F H φ' F' H' S' → ∀ σ', Slots K mg φ' F' H' S'.length σ' ρ → E.ct σ' H'
  | .ret v S' => ∀ φ' F' H', Now τ K n φ F H φ' F' H' S' → ∀ x, RepV K mg φ' F' H' S'.length x v → E.rt x H'
  | .ex e ρ S' => ∀ φ' F' H', Now τ K n φ F H φ' F' H' S' → ∀ c od, RepX K mg F' H' c od e → ∀ σ', Slots K mg φ' F' H' S'.length σ' ρ → W c od σ' H'
  | .bad => False
def RE (W : WX) (f : Ev) : TE := fun σ H Q => ∃ φ F ρ S, SG τ K φ F H S ∧ Slots K mg φ F H S.length σ ρ ∧ Post τ K mg (fun c od H' => W c od σ H') S.length φ F H Q (f ρ S)
def RT (W : WX) (f : Tv) : TT := fun σ H Q => ∃ φ F ρ S, SG τ K φ F H S ∧ Slots K mg φ F H S.length σ ρ ∧ PostT τ K mg (fun c od H' => W c od σ H') S.length φ F H Q (f ρ S)
def RA (W : WX) (f : Av) : TA := fun σ H Q => ∃ φ F ρ S, SG τ K φ F H S ∧ Slots K mg φ F H S.length σ ρ ∧ PostA τ K mg (fun c od H' => W c od σ H') S.length φ F H Q (f ρ S)
def RS (W : WX) (f : Sv) : TS := fun E σ H => ∃ φ F ρ S, SG τ K φ F H S ∧ Slots K mg φ F H S.length σ ρ ∧ PostS τ K mg W S.length φ F H E (f ρ S)
def spF (g : Fn) : Sp := fun vs H Q E => ∃ φ F xs S, SG τ K φ F H S ∧ RepVs K mg φ F H S.length vs xs ∧ Post τ K mg E S.length φ F H Q (g xs S)
end
structure DE (τ : Tb) (X : Cx) (W : WX) (e : Expr) (f : Ev) : Prop where
  r : PE X e (RE τ X.K X.mg W f)
structure DT (τ : Tb) (X : Cx) (W : WX) (e : Expr) (f : Tv) : Prop where
  r : PT X e (RT τ X.K X.mg W f)
structure DW (τ : Tb) (X : Cx) (W : WX) (e : Expr) (f : Tv) : Prop where
  r : PW X e (RT τ X.K X.mg W f)
structure DA (τ : Tb) (X : Cx) (W : WX) (es : List Expr) (f : Av) : Prop where
  r : PA X es (RA τ X.K X.mg W f)
structure DS (τ : Tb) (X : Cx) (W : WX) (s : Stmt) (f : Sv) : Prop where
  r : PS X s (RS τ X.K X.mg W f)
structure DB (τ : Tb) (X : Cx) (W : WX) (ss : List Stmt) (f : Sv) : Prop where
  r : PSs X ss (RS τ X.K X.mg W f)
theorem PE.mono {X : Cx} {e : Expr} {t t' : TE} (h : PE X e t) (m : ∀ σ H Q, t' σ H Q → t σ H Q) : PE X e t' := ⟨fun pins s σ H Q I q => h.run pins s σ H Q I (m _ _ _ q)⟩
theorem PT.mono {X : Cx} {e : Expr} {t t' : TT} (h : PT X e t) (m : ∀ σ H Q, t' σ H Q → t σ H Q) : PT X e t' := ⟨fun pins s σ H Q I q => h.run pins s σ H Q I (m _ _ _ q)⟩
theorem PW.mono {X : Cx} {e : Expr} {t t' : TT} (h : PW X e t) (m : ∀ σ H Q, t' σ H Q → t σ H Q) : PW X e t' := ⟨fun w pins s σ H Q I q => h.run w pins s σ H Q I (m _ _ _ q)⟩
theorem PA.mono {X : Cx} {e : List Expr} {t t' : TA} (h : PA X e t) (m : ∀ σ H Q, t' σ H Q → t σ H Q) : PA X e t' := ⟨fun p pins s σ H Q I q => h.run p pins s σ H Q I (m _ _ _ q)⟩
theorem PS.mono {X : Cx} {e : Stmt} {t t' : TS} (h : PS X e t) (m : ∀ E σ H, t' E σ H → t E σ H) : PS X e t' := ⟨fun pins s σ H Q I q => h.run pins s σ H Q I (m _ _ _ q)⟩
theorem PSs.mono {X : Cx} {e : List Stmt} {t t' : TS} (h : PSs X e t) (m : ∀ E σ H, t' E σ H → t E σ H) : PSs X e t' := ⟨fun pins s σ H Q I q => h.run pins s σ H Q I (m _ _ _ q)⟩
section
variable {K : PySem.W.Frag} {mg : Str → Option Value} {φ φ' φ1 φ2 : Nat → Addr} {F F' F1 F2 : Addr → Prop} {H H' H1 H2 : Hp} {n n' m : Nat} {S S' S1 : Store}
theorem Ext.refl : Ext n φ F H φ F H := ⟨fun _ h => h, fun _ _ => rfl, fun _ _ => rfl⟩
theorem Ext.trans (a : Ext n φ F H φ1 F1 H1) (b : Ext m φ1 F1 H1 φ2 F2 H2) (h : n ≤ m) : Ext n φ F H φ2 F2 H2 :=
  ⟨fun x q => b.sub x (a.sub x q), fun x q => (b.same x (a.sub x q)).trans (a.same x q), fun i q => (b.loc i (Nat.lt_of_lt_of_le q h)).trans (a.loc i q)⟩
theorem Now.refl (g : SG τ K φ F H S) : Now τ K S.length φ F H φ F H S := ⟨.refl, g, Nat.le_refl _, fun _ _ _ _ => rfl, fun _ h => h, fun i h1 h2 => absurd h2 (Nat.not_lt.mpr h1), fun _ h => .inl h⟩
theorem RepV.ext {v : V} {x : Vl} (e : Ext n φ F H φ' F' H') (h : n ≤ m) (r : RepV K mg φ F H n v x) : RepV K mg φ' F' H' m v x := by
  cases x with
  | d x => exact Fz.ext e.sub e.same x v r
  | loc i => exact ⟨Nat.lt_of_lt_of_le r.1 h, by rw [e.loc i r.1]; exact r.2⟩
  | glo x => exact r
  | ty T => exact r
  | tys T =>
    obtain ⟨a, h1, h2, h3⟩ := r
    exact ⟨a, h1, e.sub _ h2, (e.same _ h2).trans h3⟩
  | scr xs =>
    obtain ⟨a, h1, h2⟩ := r
    refine ⟨a, h1, h2.imp (fun ⟨h3, o, h4⟩ => ⟨e.sub _ h3, o, (e.same _ h3).trans h4⟩) id⟩
  | xa a => exact r
  | lam p => exact p.ext v e h r
  | glos xs =>
    obtain ⟨a, vs, h1, h2, h3, h4⟩ := r
    exact ⟨a, vs, h1, e.sub a h2, (e.same a h2).trans h3, h4⟩
theorem RepVs.ext (e : Ext n φ F H φ' F' H') (h : n ≤ m) : ∀ {vs : List V} {xs : List Vl}, RepVs K mg φ F H n vs xs → RepVs K mg φ' F' H' m vs xs
  | [], [], _ => trivial
  | _ :: _, _ :: _, r => ⟨r.1.ext e h, RepVs.ext e h r.2⟩
theorem RepVs.len : ∀ {vs : List V} {xs : List Vl}, RepVs K mg φ F H n vs xs → vs.length = xs.length
  | [], [], _ => rfl
  | _ :: _, _ :: _, r => by rw [List.length_cons, List.length_cons, RepVs.len r.2]
theorem Slots.ext {σ : L2.St} {ρ : Env} (e : Ext n φ F H φ' F' H') (h : n ≤ m) (r : Slots K mg φ F H n σ ρ) : Slots K mg φ' F' H' m σ ρ :=
  ⟨r.1, fun i x q => let ⟨v, h1, h2⟩ := r.2 i x q; ⟨v, h1, h2.ext e h⟩⟩
theorem Slots.now {σ : L2.St} {ρ : Env} (e : Now τ K n φ F H φ' F' H' S') (r : Slots K mg φ F H n σ ρ) : Slots K mg φ' F' H' S'.length σ ρ := r.ext e.ext e.le
theorem RepV.now {v : V} {x : Vl} (e : Now τ K n φ F H φ' F' H' S') (r : RepV K mg φ F H n v x) : RepV K mg φ' F' H' S'.length v x := r.ext e.ext e.le
theorem Slots.set {σ : L2.St} {ρ : Env} {i : Nat} {v : V} {x : Vl} (r : Slots K mg φ F H n σ ρ) (q : RepV K mg φ F H n v x) : Slots K mg φ F H n (σ.set i (some v)) (ρ.set i (some x)) := by
  refine ⟨by rw [List.length_set, List.length_set]; exact r.1, fun j y hj => ?_⟩
  by_cases e : i = j
  · subst e
    by_cases hl : i < ρ.length
    · rw [List.getElem?_set_self hl] at hj
      cases hj
      exact ⟨v, by rw [List.getElem?_set_self (by rw [r.1]; exact hl)], q⟩
    · rw [List.getElem?_eq_none (by simpa using hl)] at hj
      cases hj
  · rw [List.getElem?_set_ne e] at hj
    obtain ⟨w, h1, h2⟩ := r.2 j y hj
    exact ⟨w, by rw [List.getElem?_set_ne e]; exact h1, h2⟩
theorem Slots.weak {σ : L2.St} {ρ ρ' : Env} (r : Slots K mg φ F H n σ ρ) (hl : ρ'.length = ρ.length) (h : ∀ (i : Nat) (x : Vl), ρ'[i]? = some (some x) → ρ[i]? = some (some x)) : Slots K mg φ F H n σ ρ' :=
  ⟨r.1.trans hl.symm, fun i x q => r.2 i x (h i x q)⟩
theorem MOk.ext {a : Addr} {o : MO} (hs : ∀ a, F a → F' a) (he : ∀ a, F a → H' a = H a) (hn : o.live = true → ¬ F a → ¬ F' a) (ha : H' a = H a) (h : MOk K F H a o) : MOk K F' H' a o := by
  cases o with
  | lst ds =>
    obtain ⟨h1, xs, h2, h3⟩ := h
    exact ⟨hn rfl h1, xs, ha.trans h2, h3.ext hs he⟩
  | dct es =>
    obtain ⟨h1, xs, h2, h3⟩ := h
    exact ⟨hn rfl h1, xs, ha.trans h2, h3.ext hs he⟩
  | fz x => exact ⟨h.1.ext hs he, by rw [ha]; exact h.2⟩
theorem MOk.there {a : Addr} {o : MO} (h : MOk K F H a o) : H a ≠ none ∧ (o.live = true → ¬ F a) := by
  cases o with
  | lst ds =>
    obtain ⟨h1, xs, h2, h3⟩ := h
    exact ⟨by rw [h2]; simp, fun _ => h1⟩
  | dct es =>
    obtain ⟨h1, xs, h2, h3⟩ := h
    exact ⟨by rw [h2]; simp, fun _ => h1⟩
  | fz x => exact ⟨h.2, fun h => nomatch h⟩
theorem SG.at (g : SG τ K φ F H S) {i : Nat} (h : i < S.length) : H (φ i) ≠ none := (g.obj i _ (List.getElem?_eq_getElem h)).there.1
theorem SG.neAt (g : SG τ K φ F H S) {i : Nat} {p : Addr} (h : i < S.length) (hp : H p = none) : φ i ≠ p := fun e => g.at h (e ▸ hp)
theorem Now.trans (g : SG τ K φ F H S) (a : Now τ K S.length φ F H φ1 F1 H1 S1) (b : Now τ K S1.length φ1 F1 H1 φ2 F2 H2 S') : Now τ K S.length φ F H φ2 F2 H2 S' := by
  have nf : ∀ i x, S.length ≤ i → i < S1.length → H x ≠ none → φ1 i ≠ x := fun i x h1 h2 h3 e => h3 (e ▸ a.new i h1 h2)
  have rest : ∀ x, H x ≠ none → (∀ ps, H x ≠ some (.tbl ps)) → (∀ i, i < S.length → φ i ≠ x) → H2 x = H x := fun x hx ht hn => by
    have e1 := a.rest x hx ht hn
    refine (b.rest x (by rw [e1]; exact hx) (by rw [e1]; exact ht) fun i hi => ?_).trans e1
    by_cases hl : i < S.length
    · rw [a.ext.loc i hl]; exact hn i hl
    · exact nf i x (Nat.not_lt.mp hl) hi hx
  refine ⟨a.ext.trans b.ext a.le, b.sg, Nat.le_trans a.le b.le, rest, fun x hx => b.alive x (a.alive x hx), fun i h1 h2 => ?_, fun x hx => ?_⟩
  rotate_left
  · rcases b.fnew x hx with h | h | ⟨i, hi, e⟩
    · exact a.fnew x h
    · cases q : H x with
      | none => exact .inr (.inl rfl)
      | some o => exact absurd h (a.alive x (by rw [q]; simp))
    · by_cases hl : i < S.length
      · exact .inr (.inr ⟨i, hl, by rw [← a.ext.loc i hl]; exact e⟩)
      · exact .inr (.inl (e ▸ a.new i (Nat.not_lt.mp hl) hi))
  by_cases hl : i < S1.length
  · rw [b.ext.loc i hl]; exact a.new i h1 hl
  · have hn := b.new i (Nat.not_lt.mp hl) h2
    cases q : H (φ2 i) with
    | none => rfl
    | some o => exact absurd hn (a.alive _ (by rw [q]; simp))
theorem tab_ne (t : LamX.Tabs τ H) {q : Addr × Str} (hq : q ∈ τ) : H q.1 ≠ none := by
  obtain ⟨ps, h1, _⟩ := t q hq
  rw [h1]; simp
def Plain0 (o : HO) : Prop := (∀ ps, o ≠ .tbl ps) ∧ ∀ c q, o ≠ LamX.CodeO c q
theorem only_upd {τ : Tb} {p : Addr} {o : HO} (h : ∀ a ps, H a = some (.tbl ps) → ∃ q ∈ τ, q.1 = a) (ho : Plain0 o) : ∀ a ps, upd H p o a = some (.tbl ps) → ∃ q ∈ τ, q.1 = a := fun a ps e => by
  by_cases z : a = p
  · subst z
    rw [upd_same] at e
    exact absurd (Option.some.inj e) (ho.1 ps)
  · rw [upd_ne z] at e
    exact h a ps e
theorem codes_upd {F F' : Addr → Prop} {p : Addr} {o : HO} (h : ∀ a c q, H a = some (LamX.CodeO c q) → F a) (hs : ∀ a, F a → F' a) (ho : Plain0 o) : ∀ a c q, upd H p o a = some (LamX.CodeO c q) → F' a := fun a c q e => by
  by_cases z : a = p
  · subst z
    rw [upd_same] at e
    exact absurd (Option.some.inj e) (ho.2 c q)
  · rw [upd_ne z] at e
    exact hs a (h a c q e)
theorem tabs_new {p : Addr} {o : HO} (t : LamX.Tabs τ H) (hp : H p = none) : LamX.Tabs τ (upd H p o) := t.ext fun b u e => (upd_ne fun eq => by rw [eq, hp] at e; cases e).trans e
theorem plain_lst {xs : List V} : Plain0 (.lst xs) := ⟨fun _ z => (by cases z), fun _ _ z => (by unfold LamX.CodeO at z; cases z)⟩
theorem plain_dK {xs : List (Key × V)} : Plain0 (.dK xs) := ⟨fun _ z => (by cases z), fun _ _ z => (by unfold LamX.CodeO at z; cases z)⟩
theorem tabs_put {p : Addr} {o u : HO} (t : LamX.Tabs τ H) (hp : H p = some u) (pu : Plain0 u) : LamX.Tabs τ (upd H p o) := fun q hq => by
  obtain ⟨ps, h1, h2, h3⟩ := t q hq
  refine ⟨ps, (upd_ne fun e => ?_).trans h1, h2, fun pos cv hc => ?_⟩
  · rw [e, hp] at h1
    exact pu.1 ps (Option.some.inj h1)
  · obtain ⟨c, e1, e2⟩ := h3 pos cv hc
    refine ⟨c, e1, (upd_ne fun e => ?_).trans e2⟩
    rw [e, hp] at e2
    exact pu.2 _ _ (Option.some.inj e2)
theorem alive_upd {p : Addr} {o : HO} : ∀ a, H a ≠ none → upd H p o a ≠ none := fun a h => by
  by_cases e : a = p
  · subst e; rw [upd_same]; simp
  · rw [upd_ne e]; exact h
theorem MOk.plain {a : Addr} {o : MO} (h : MOk K F H a o) (hv : o.live = true) : ∃ u, H a = some u ∧ Plain0 u := by
  cases o with
  | lst ds => obtain ⟨_, xs, h2, _⟩ := h; exact ⟨_, h2, plain_lst⟩
  | dct es => obtain ⟨_, xs, h2, _⟩ := h; exact ⟨_, h2, plain_dK⟩
  | fz x => cases hv
theorem SG.fresh (g : SG τ K φ F H S) {p : Addr} {o : HO} (hp : H p = none) (ho : Plain0 o := by exact ⟨fun _ z => (by cases z), fun _ _ z => (by unfold LamX.CodeO at z; cases z)⟩) : Now τ K S.length φ F H φ (fun a => F a ∨ a = p) (upd H p o) S := by
  have same : ∀ a, F a → upd H p o a = H a := fun a h => upd_ne fun e => g.dom a h (e ▸ hp)
  refine ⟨⟨fun _ h => .inl h, same, fun _ _ => rfl⟩, ⟨fun a h => ?_, fun i o' h => ?_, g.inj, tabs_new g.tab hp, fun q hq z => z.elim (g.ntab q hq) fun e => tab_ne g.tab hq (e ▸ hp), only_upd g.only ho, codes_upd g.codes (fun _ z => .inl z) ho⟩, Nat.le_refl _, fun a ha _ _ => upd_ne fun e => ha (e ▸ hp), alive_upd, fun i h1 h2 => absurd h2 (Nat.not_lt.mpr h1), fun a (h : F a ∨ a = p) => h.imp id fun e => .inl (by rw [e]; exact hp)⟩
  · rcases h with h | h
    · rw [same a h]; exact g.dom a h
    · subst h; rw [upd_same]; simp
  · have hi : i < S.length := (List.getElem?_eq_some_iff.mp h).1
    have hne := g.neAt hi hp
    exact (g.obj i o' h).ext (fun _ h => .inl h) same (fun _ h1 h2 => h2.elim h1 hne) (upd_ne hne)
theorem SG.newLoc (g : SG τ K φ F H S) {p : Addr} {o : HO} {mo : MO} (hp : H p = none) (hm : (¬ F p → (∀ a, F a → upd H p o a = H a) → MOk K F (upd H p o) p mo)) (ho : Plain0 o := by exact ⟨fun _ z => (by cases z), fun _ _ z => (by unfold LamX.CodeO at z; cases z)⟩) :
    Now τ K S.length φ F H (fun i => if i = S.length then p else φ i) F (upd H p o) (S ++ [mo]) := by
  have same : ∀ a, F a → upd H p o a = H a := fun a h => upd_ne fun e => g.dom a h (e ▸ hp)
  have nf : ¬ F p := fun h => g.dom p h hp
  refine ⟨⟨fun _ h => h, same, fun i h => if_neg (Nat.ne_of_lt h)⟩, ⟨fun a h => ?_, fun i o' h => ?_, fun i j hi hj e => ?_, tabs_new g.tab hp, g.ntab, only_upd g.only ho, codes_upd g.codes (fun _ z => z) ho⟩, by simp, fun a ha _ _ => upd_ne fun e => ha (e ▸ hp), alive_upd, fun i h1 h2 => ?_, fun _ h => .inl h⟩
  · rw [same a h]; exact g.dom a h
  · by_cases hi : i = S.length
    · subst hi
      rw [List.getElem?_append_right (Nat.le_refl _), Nat.sub_self] at h
      cases h
      simp only [if_true]
      exact hm nf same
    · have hl : i < S.length := by
        have := (List.getElem?_eq_some_iff.mp h).1
        rw [List.length_append] at this
        simp at this
        omega
      rw [List.getElem?_append_left hl] at h
      simp only [if_neg hi]
      exact (g.obj i o' h).ext (fun _ h => h) same (fun _ h => h) (upd_ne (g.neAt hl hp))
  · simp only [List.length_append, List.length_singleton] at hi hj
    by_cases h1 : i = S.length <;> by_cases h2 : j = S.length
    · omega
    · simp only [h1, h2, if_true, if_false] at e
      exact absurd e.symm (g.neAt (by omega) hp)
    · simp only [h1, h2, if_true, if_false] at e
      exact absurd e (g.neAt (by omega) hp)
    · simp only [h1, h2, if_false] at e
      exact g.inj i j (by omega) (by omega) e
  · have e : i = S.length := by
      rw [List.length_append, List.length_singleton] at h2
      omega
    simp only [if_pos e]
    exact hp
theorem SG.write (g : SG τ K φ F H S) {i : Nat} {o : HO} {mo m0 : MO} (h0 : S[i]? = some m0) (hv : m0.live = true) (hm : ¬ F (φ i) → (∀ a, F a → upd H (φ i) o a = H a) → MOk K F (upd H (φ i) o) (φ i) mo) (ho : Plain0 o := by exact ⟨fun _ z => (by cases z), fun _ _ z => (by unfold LamX.CodeO at z; cases z)⟩) :
    Now τ K S.length φ F H φ F (upd H (φ i) o) (S.set i mo) := by
  have hi : i < S.length := (List.getElem?_eq_some_iff.mp h0).1
  have nf := (g.obj i _ h0).there.2 hv
  have same : ∀ a, F a → upd H (φ i) o a = H a := fun a h => upd_ne fun e => nf (e ▸ h)
  obtain ⟨u0, hu0, pu0⟩ := (g.obj i _ h0).plain hv
  refine ⟨⟨fun _ h => h, same, fun _ _ => rfl⟩, ⟨fun a h => ?_, fun j o' h => ?_, fun j k hj hk e => ?_, tabs_put g.tab hu0 pu0, g.ntab, only_upd g.only ho, codes_upd g.codes (fun _ z => z) ho⟩, by simp, fun a _ _ hn => upd_ne fun e => hn i hi e.symm, alive_upd, fun j h1 h2 => absurd h2 (by rw [List.length_set]; exact Nat.not_lt.mpr h1), fun _ h => .inl h⟩
  · rw [same a h]; exact g.dom a h
  · by_cases hj : i = j
    · subst hj
      rw [List.getElem?_set_self hi] at h
      cases h
      exact hm nf same
    · rw [List.getElem?_set_ne hj] at h
      have hl := (List.getElem?_eq_some_iff.mp h).1
      exact (g.obj j o' h).ext (fun _ h => h) same (fun _ h => h) (upd_ne fun e => hj (g.inj j i hl hi e).symm)
  · rw [List.length_set] at hj hk
    exact g.inj j k hj hk e
theorem SG.freeze (g : SG τ K φ F H S) {i : Nat} {m0 : MO} {x : D} (h0 : S[i]? = some m0) (hv : m0.live = true) (hm : Fz K (fun a => F a ∨ a = φ i) H (.ref (φ i)) x) : Now τ K S.length φ F H φ (fun a => F a ∨ a = φ i) H (S.set i (.fz x)) := by
  have hi : i < S.length := (List.getElem?_eq_some_iff.mp h0).1
  refine ⟨⟨fun _ h => .inl h, fun _ _ => rfl, fun _ _ => rfl⟩, ⟨fun a h => ?_, fun j o' h => ?_, fun j k hj hk e => ?_, g.tab, fun q hq z => z.elim (g.ntab q hq) fun e => ?_, g.only, fun a c q e => .inl (g.codes a c q e)⟩, by simp, fun _ _ _ _ => rfl, fun _ h => h, fun j h1 h2 => absurd h2 (by rw [List.length_set]; exact Nat.not_lt.mpr h1), fun a (h : F a ∨ a = φ i) => h.imp id fun e => .inr ⟨i, hi, e.symm⟩⟩
  · rcases h with h | h
    · exact g.dom a h
    · subst h; exact g.at hi
  · by_cases hj : i = j
    · subst hj
      rw [List.getElem?_set_self hi] at h
      cases h
      exact ⟨hm, g.at hi⟩
    · rw [List.getElem?_set_ne hj] at h
      have hl := (List.getElem?_eq_some_iff.mp h).1
      exact (g.obj j o' h).ext (fun _ h => .inl h) (fun _ _ => rfl) (fun _ h h2 => h2.elim h fun e => hj (g.inj j i hl hi e).symm) rfl
  · rw [List.length_set] at hj hk
    exact g.inj j k hj hk e
  · obtain ⟨u, hu, pu⟩ := (g.obj i _ h0).plain hv
    obtain ⟨ps, h1, _⟩ := g.tab q hq
    rw [e, hu] at h1
    exact pu.1 ps (Option.some.inj h1)
theorem Now.priv {p : Addr} (nw : Now τ K n φ F H φ' F' H' S') (h : H p ≠ none) (nt : ∀ ps, H p ≠ some (.tbl ps)) (nf : ¬ F p) (ns : ∀ i, i < n → φ i ≠ p) : H' p = H p ∧ ¬ F' p ∧ ∀ i, i < S'.length → φ' i ≠ p := by
  refine ⟨nw.rest p h nt ns, fun q => ?_, fun i hi e => ?_⟩
  · rcases nw.fnew p q with z | z | ⟨i, hi, e⟩
    · exact nf z
    · exact h z
    · exact ns i hi e
  · by_cases hl : i < n
    · exact ns i hl (by rw [← nw.ext.loc i hl]; exact e)
    · exact h (e ▸ nw.new i (Nat.not_lt.mp hl) hi)
theorem SG.other {p : Addr} {o : HO} (g : SG τ K φ F H S) (hp : H p = none ∨ ∃ u, H p = some u ∧ Plain0 u) (nf : ¬ F p) (ns : ∀ i, i < S.length → φ i ≠ p) (ho : Plain0 o := by exact ⟨fun _ z => (by cases z), fun _ _ z => (by unfold LamX.CodeO at z; cases z)⟩) : SG τ K φ F (upd H p o) S := by
  have same : ∀ a, F a → upd H p o a = H a := fun a h => upd_ne fun e => nf (e ▸ h)
  refine ⟨fun a h => by rw [same a h]; exact g.dom a h, fun i m hm => ?_, g.inj, hp.elim (tabs_new g.tab) fun ⟨u, hu, pu⟩ => tabs_put g.tab hu pu, g.ntab, only_upd g.only ho, codes_upd g.codes (fun _ z => z) ho⟩
  exact (g.obj i m hm).ext (fun _ h => h) same (fun _ h => h) (upd_ne (ns i (List.getElem?_eq_some_iff.mp hm).1))
theorem Now.other {p : Addr} {o : HO} (nw : Now τ K n φ F H φ' F' H' S') (h : H p = none) (hp : H' p = none ∨ ∃ u, H' p = some u ∧ Plain0 u) (hF : ∀ a, F a → H a ≠ none) (nf : ¬ F' p) (ns : ∀ i, i < S'.length → φ' i ≠ p) (ho : Plain0 o := by exact ⟨fun _ z => (by cases z), fun _ _ z => (by unfold LamX.CodeO at z; cases z)⟩) : Now τ K n φ F H φ' F' (upd H' p o) S' :=
  ⟨⟨nw.ext.sub, fun a ha => (upd_ne fun e => hF a ha (by rw [e]; exact h)).trans (nw.ext.same a ha), nw.ext.loc⟩, nw.sg.other hp nf ns ho, nw.le, fun a ha ht hn => (upd_ne fun e => ha (by rw [e]; exact h)).trans (nw.rest a ha ht hn), fun a ha => alive_upd a (nw.alive a ha), nw.new, nw.fnew⟩
theorem Now.take {p : Addr} (nw : Now τ K n φ F H φ' F' H' S') (h : H p = none) (hp : H' p ≠ none) (hp2 : ∀ ps, H' p ≠ some (.tbl ps)) (ns : ∀ i, i < S'.length → φ' i ≠ p) : Now τ K n φ F H φ' (fun a => F' a ∨ a = p) H' S' :=
  ⟨⟨fun a ha => .inl (nw.ext.sub a ha), nw.ext.same, nw.ext.loc⟩, ⟨fun a ha => ha.elim (nw.sg.dom a) fun e => e ▸ hp, fun i m hm => (nw.sg.obj i m hm).ext (fun _ z => .inl z) (fun _ _ => rfl) (fun _ z q => q.elim z (ns i (List.getElem?_eq_some_iff.mp hm).1)) rfl, nw.sg.inj, nw.sg.tab, fun q hq z => z.elim (nw.sg.ntab q hq) fun e => (let ⟨ps, h1, _⟩ := nw.sg.tab q hq; hp2 ps (e ▸ h1)), nw.sg.only, fun a c q e => .inl (nw.sg.codes a c q e)⟩, nw.le, nw.rest, nw.alive, nw.new,
    fun a ha => ha.elim (nw.fnew a) fun e => .inr (.inl (e ▸ h))⟩
theorem Now.keep {p : Addr} {mo : MO} (nw : Now τ K n φ F H φ' F' H' S') (h : H p = none) (ns : ∀ i, i < S'.length → φ' i ≠ p) (hm : MOk K F' H' p mo) : Now τ K n φ F H (fun i => if i = S'.length then p else φ' i) F' H' (S' ++ [mo]) := by
  refine ⟨⟨nw.ext.sub, nw.ext.same, fun i hi => ?_⟩, ⟨nw.sg.dom, fun i m hi => ?_, fun i j hi hj e => ?_, nw.sg.tab, nw.sg.ntab, nw.sg.only, nw.sg.codes⟩, ?_, nw.rest, nw.alive, fun i h1 h2 => ?_, nw.fnew⟩
  · show (if i = S'.length then p else φ' i) = φ i
    rw [if_neg (Nat.ne_of_lt (Nat.lt_of_lt_of_le hi nw.le))]
    exact nw.ext.loc i hi
  · by_cases he : i = S'.length
    · subst he
      rw [List.getElem?_append_right (Nat.le_refl _), Nat.sub_self] at hi
      cases hi
      simp only [if_true]
      exact hm
    · have hl := (List.getElem?_eq_some_iff.mp hi).1
      rw [List.length_append, List.length_singleton] at hl
      rw [List.getElem?_append_left (by omega)] at hi
      simp only [if_neg he]
      exact nw.sg.obj i m hi
  · rw [List.length_append, List.length_singleton] at hi hj
    by_cases h1 : i = S'.length <;> by_cases h2 : j = S'.length
    · omega
    · simp only [h1, h2, if_true, if_false] at e
      exact absurd e.symm (ns j (by omega))
    · simp only [h1, h2, if_true, if_false] at e
      exact absurd e (ns i (by omega))
    · simp only [h1, h2, if_false] at e
      exact nw.sg.inj i j (by omega) (by omega) e
  · rw [List.length_append]
    exact Nat.le_trans nw.le (Nat.le_add_right _ _)
  · rw [List.length_append, List.length_singleton] at h2
    by_cases he : i = S'.length
    · simp only [if_pos he]; exact h
    · simp only [if_neg he]; exact nw.new i h1 (by omega)
theorem SG.take (g : SG τ K φ F H S) (n : Nat) : SG τ K φ F H (S.take n) :=
  ⟨g.dom, fun i o h => g.obj i o (by
    have hl := (List.getElem?_eq_some_iff.mp h).1
    rw [List.length_take] at hl
    rw [List.getElem?_take_of_lt (by omega)] at h
    exact h), fun i j hi hj e => g.inj i j (by rw [List.length_take] at hi; omega) (by rw [List.length_take] at hj; omega) e, g.tab, g.ntab, g.only, g.codes⟩
theorem PostG.start {α β : Type} {R : (Nat → Addr) → (Addr → Prop) → Hp → Nat → β → α → Prop} {W : XW} {Q : β → Hp → Prop} {r : Res α} (g : SG τ K φ F H S) (e : Now τ K S.length φ F H φ1 F1 H1 S1) (p : PostG τ K mg R W S.length φ F H Q r) : PostG τ K mg R W S1.length φ1 F1 H1 Q r := by
  cases r with
  | ok v S' => exact fun φ' F' H' nw x rx => p φ' F' H' (Now.trans g e nw) x rx
  | ex x S' => exact fun φ' F' H' nw c od rx => p φ' F' H' (Now.trans g e nw) c od rx
  | bad => exact p
theorem PostG.bind {α β α' β' : Type} {R : (Nat → Addr) → (Addr → Prop) → Hp → Nat → β → α → Prop} {R' : (Nat → Addr) → (Addr → Prop) → Hp → Nat → β' → α' → Prop} {W : XW} {Q : β → Hp → Prop} {Q' : β' → Hp → Prop} {r : Res α'} {k : α' → Store → Res α}
    (g : SG τ K φ F H S) (p : PostG τ K mg R W S.length φ F H Q (r.bind k)) (h : ∀ φ1 F1 H1 S1 v x, Now τ K S.length φ F H φ1 F1 H1 S1 → R' φ1 F1 H1 S1.length x v → PostG τ K mg R W S1.length φ1 F1 H1 Q (k v S1) → Q' x H1) : PostG τ K mg R' W S.length φ F H Q' r := by
  cases r with
  | ok v S' => exact fun φ' F' H' nw x rx => h _ _ _ _ _ _ nw rx (PostG.start g nw p)
  | ex x S' => exact p
  | bad => exact p
theorem PostG.mono {α β : Type} {R : (Nat → Addr) → (Addr → Prop) → Hp → Nat → β → α → Prop} {W : XW} {Q Q' : β → Hp → Prop} {r : Res α} (p : PostG τ K mg R W n φ F H Q r) (h : ∀ x H', Q x H' → Q' x H') : PostG τ K mg R W n φ F H Q' r := by
  cases r with
  | ok v S' => exact fun φ' F' H' nw x rx => h _ _ (p φ' F' H' nw x rx)
  | ex x S' => exact p
  | bad => exact p
theorem PostS.start {W : WX} {E : Ends} {r : SRes} (g : SG τ K φ F H S) (e : Now τ K S.length φ F H φ1 F1 H1 S1) (p : PostS τ K mg W S.length φ F H E r) : PostS τ K mg W S1.length φ1 F1 H1 E r := by
  cases r with
  | nx ρ S' => exact fun φ' F' H' nw x rx => p φ' F' H' (Now.trans g e nw) x rx
  | bk ρ S' => exact fun φ' F' H' nw x rx => p φ' F' H' (Now.trans g e nw) x rx
  | ct ρ S' => exact fun φ' F' H' nw x rx => p φ' F' H' (Now.trans g e nw) x rx
  | ret v S' => exact fun φ' F' H' nw x rx => p φ' F' H' (Now.trans g e nw) x rx
  | ex x ρ S' => exact fun φ' F' H' nw c od rx => p φ' F' H' (Now.trans g e nw) c od rx
  | bad => exact p
theorem Post.ok {W : XW} {Q : VK} {v : Vl} {x : V} (g : SG τ K φ F H S) (p : Post τ K mg W S.length φ F H Q (.ok v S)) (r : RepV K mg φ F H S.length x v) : Q x H := p φ F H (.refl g) x r
theorem PostT.ok {W : XW} {Q : Bool → Hp → Prop} {b : Bool} (g : SG τ K φ F H S) (p : PostT τ K mg W S.length φ F H Q (.ok b S)) : Q b H := p φ F H (.refl g) b rfl
theorem Post.newT {W : XW} {Q : VK} {xs : List V} {ds : List D} (g : SG τ K φ F H S) (r : FzAll K F H xs ds) (p : Post τ K mg W S.length φ F H Q (.ok (.d (.tuple ds)) S)) : ∀ a, H a = none → Q (.ref a) (upd H a (.tup xs)) := fun a ha => by
  have nw := g.fresh (o := .tup xs) ha
  exact p _ _ _ nw _ (.tup (.inl ⟨.inr rfl, upd_same⟩) (r.ext nw.ext.sub nw.ext.same))
end
def mkL (m : Bool) (ds : List D) (S : Store) : Res Vl := if m then .ok (.loc S.length) (S ++ [.lst ds]) else .ok (.d (.list ds)) S
def mkK (m : Bool) (es : List (D × D)) (S : Store) : Res Vl := if m then .ok (.loc S.length) (S ++ [.dct es]) else .ok (.d (.dict es)) S
section
variable {K : PySem.W.Frag} {mg : Str → Option Value} {φ φ' φ1 φ2 : Nat → Addr} {F F' F1 F2 : Addr → Prop} {H H' H1 H2 : Hp} {n n' m : Nat} {S S' S1 : Store}
theorem Post.newL {W : XW} {Q : VK} {m : Bool} {xs : List V} {ds : List D} (g : SG τ K φ F H S) (r : FzAll K F H xs ds) (p : Post τ K mg W S.length φ F H Q (mkL m ds S)) : ∀ a, H a = none → Q (.ref a) (upd H a (.lst xs)) := fun a ha => by
  cases m with
  | true =>
    have nw := g.newLoc (o := .lst xs) (mo := .lst ds) ha fun nf same => ⟨nf, xs, upd_same, r.ext (fun _ h => h) same⟩
    exact p _ _ _ nw _ ⟨by simp, by simp⟩
  | false =>
    have nw := g.fresh (o := .lst xs) ha
    exact p _ _ _ nw _ (.lst (.inr rfl) upd_same (r.ext nw.ext.sub nw.ext.same))
theorem Post.newK {W : XW} {Q : VK} {m : Bool} {xs : List (Key × V)} {ds : List (D × D)} (g : SG τ K φ F H S) (r : FzKv K F H xs ds) (p : Post τ K mg W S.length φ F H Q (mkK m ds S)) : ∀ a, H a = none → Q (.ref a) (upd H a (.dK xs)) := fun a ha => by
  cases m with
  | true =>
    have nw := g.newLoc (o := .dK xs) (mo := .dct ds) ha fun nf same => ⟨nf, xs, upd_same, r.ext (fun _ h => h) same⟩
    exact p _ _ _ nw _ ⟨by simp, by simp⟩
  | false =>
    have nw := g.fresh (o := .dK xs) ha
    exact p _ _ _ nw _ (.dct (.inr rfl) upd_same (r.ext nw.ext.sub nw.ext.same))
end
structure Cc (X : Cx) (W : WX) (k : Nat) : Prop where
  calm : X.calm = true
  nd : X.N.Nodup
  tk : Takes X W
  rm : Room k X.A
  po : PassesOwn (model X.prog X.w) X.A X.env X.xe
  gd : X.A.guards = some []
abbrev W0 : WX := fun _ _ _ _ => False
theorem Cc.blk {X : Cx} {W : WX} {k : Nat} (c : Cc X W k) {s : Shared} {H : Hp} {scope : Scope} {cenv : PySem.Env} {fp : List Addr} : Cc (X.blk s H scope cenv fp) W0 k := ⟨c.calm, c.nd, takes0, c.rm, PassesOwn.never, c.gd⟩
def view (S : Store) : Vl → Option D
  | .d x => some x
  | .loc i => match S[i]? with
    | some (.lst ds) => some (.list ds)
    | some (.dct es) => some (.dict es)
    | some (.fz x) => some x
    | none => none
  | _ => none
@[simp] theorem view_d (S : Store) (x : D) : view S (.d x) = some x := rfl
def fr (v : Vl) (S : Store) : Res D := match v with
  | .d x => .ok x S
  | .loc i => match S[i]? with
    | some (.lst ds) => .ok (.list ds) (S.set i (.fz (.list ds)))
    | some (.dct es) => .ok (.dict es) (S.set i (.fz (.dict es)))
    | some (.fz x) => .ok x S
    | none => .bad
  | _ => .bad
@[simp] theorem fr_d (S : Store) (x : D) : fr (.d x) S = .ok x S := rfl
def frs : List Vl → Store → Res (List D)
  | [], S => .ok [] S
  | v :: vs, S => (fr v S).bind fun x S1 => (frs vs S1).bind fun xs S2 => .ok (x :: xs) S2
@[simp] theorem frs_nil (S : Store) : frs [] S = .ok [] S := rfl
@[simp] theorem frs_d (x : D) (vs : List Vl) (S : Store) : frs (.d x :: vs) S = (frs vs S).bind fun xs S2 => .ok (x :: xs) S2 := rfl
def Ob (K : PySem.W.Frag) (F : Addr → Prop) (H : Hp) (x : V) : D → Prop
  | .none => x = .non
  | .bool b => x = .bl b
  | .int i => x = .int i
  | .str z => x = .str z
  | .list ds => ∃ a xs, x = .ref a ∧ H a = some (.lst xs) ∧ FzAll K F H xs ds
  | .tuple ds => ∃ a xs, x = .ref a ∧ FqT K F H a xs ∧ FzAll K F H xs ds
  | .dict es => ∃ a kvs, x = .ref a ∧ H a = some (.dK kvs) ∧ FzKv K F H kvs es
section
variable {K : PySem.W.Frag} {mg : Str → Option Value} {φ φ' φ1 φ2 : Nat → Addr} {F F' F1 F2 : Addr → Prop} {H H' H1 H2 : Hp} {n n' m : Nat} {S S' S1 : Store}
theorem Fz.ob {x : V} {d : D} (h : Fz K F H x d) : Ob K F H x d := by
  cases h with
  | non => rfl
  | bl b => rfl
  | int i => rfl
  | str z => rfl
  | lst h1 h2 h3 => exact ⟨_, _, rfl, h2, h3⟩
  | tup h1 h2 => exact ⟨_, _, rfl, h1, h2⟩
  | dct h1 h2 h3 => exact ⟨_, _, rfl, h2, h3⟩
theorem ob_of {x : V} {v : Vl} {d : D} (g : SG τ K φ F H S) (r : RepV K mg φ F H n x v) (e : view S v = some d) : Ob K F H x d := by
  cases v with
  | d y => cases e; exact Fz.ob r
  | loc i =>
    obtain ⟨_, rfl⟩ := r
    cases q : S[i]? with
    | none => simp only [view, q] at e; cases e
    | some mo =>
      simp only [view, q] at e
      have o := g.obj i _ q
      cases mo with
      | lst ds =>
        cases e
        obtain ⟨_, xs, h1, h2⟩ := o
        exact ⟨_, _, rfl, h1, h2⟩
      | dct ds =>
        cases e
        obtain ⟨_, xs, h1, h2⟩ := o
        exact ⟨_, _, rfl, h1, h2⟩
      | fz y =>
        cases e
        exact o.1.ob
  | glo y => cases e
  | ty y => cases e
  | tys y => cases e
  | scr y => cases e
  | xa y => cases e
  | lam y => cases e
  | glos y => cases e
theorem FzKv.len : ∀ {vs : List (Key × V)} {ds : List (D × D)}, FzKv K F H vs ds → vs.length = ds.length
  | _, _, .nil => rfl
  | _, _, .cons _ h => by rw [List.length_cons, List.length_cons, FzKv.len h]
theorem fr_ok {x : V} {v : Vl} (g : SG τ K φ F H S) (r : RepV K mg φ F H S.length x v) (p : fr v S ≠ .bad) :
    ∃ φ' F' S' d, Now τ K S.length φ F H φ' F' H S' ∧ Fz K F' H x d ∧ fr v S = .ok d S' := by
  cases v with
  | d y => exact ⟨φ, F, S, y, .refl g, r, rfl⟩
  | loc i =>
    obtain ⟨hi, rfl⟩ := r
    cases q : S[i]? with
    | none => exact absurd hi (by simpa using q)
    | some mo =>
      cases mo with
      | lst ds =>
        obtain ⟨h0, xs, h1, h2⟩ := g.obj i _ q
        have f := Fz.lst (K := K) (F := fun a => F a ∨ a = φ i) (H := H) (.inr rfl) h1 (h2.ext (fun _ h => .inl h) fun _ _ => rfl)
        exact ⟨φ, _, _, .list ds, g.freeze q rfl f, f, by simp only [fr, q]⟩
      | dct ds =>
        obtain ⟨h0, xs, h1, h2⟩ := g.obj i _ q
        have f := Fz.dct (K := K) (F := fun a => F a ∨ a = φ i) (H := H) (.inr rfl) h1 (h2.ext (fun _ h => .inl h) fun _ _ => rfl)
        exact ⟨φ, _, _, .dict ds, g.freeze q rfl f, f, by simp only [fr, q]⟩
      | fz y => exact ⟨φ, F, S, y, .refl g, (g.obj i _ q).1, by simp only [fr, q]⟩
  | glo y => exact (p rfl).elim
  | ty y => exact (p rfl).elim
  | tys y => exact (p rfl).elim
  | scr y => exact (p rfl).elim
  | xa y => exact (p rfl).elim
  | lam y => exact (p rfl).elim
  | glos y => exact (p rfl).elim
theorem PostG.ok_of {α β : Type} {R : (Nat → Addr) → (Addr → Prop) → Hp → Nat → β → α → Prop} {W : XW} {Q : β → Hp → Prop} {r : Res α} {v : α} {x : β} (p : PostG τ K mg R W n φ F H Q r) (e : r = .ok v S') (nw : Now τ K n φ F H φ' F' H' S') (q : R φ' F' H' S'.length x v) : Q x H' := by
  subst e
  exact p _ _ _ nw _ q
theorem frs_ok {α β : Type} {R : (Nat → Addr) → (Addr → Prop) → Hp → Nat → β → α → Prop} {W : XW} {Q : β → Hp → Prop} : ∀ {xs : List V} {vs : List Vl} {φ : Nat → Addr} {F : Addr → Prop} {S : Store} {n0 : Nat} {φ0 : Nat → Addr} {F0 : Addr → Prop} {H0 : Hp} {k : List D → Store → Res α},
    SG τ K φ F H S → RepVs K mg φ F H S.length xs vs → PostG τ K mg R W n0 φ0 F0 H0 Q ((frs vs S).bind k) → ∃ φ' F' S' ds, Now τ K S.length φ F H φ' F' H S' ∧ FzAll K F' H xs ds ∧ PostG τ K mg R W n0 φ0 F0 H0 Q (k ds S')
  | [], [], φ, F, S, _, _, _, _, k, g, _, p => ⟨φ, F, S, [], .refl g, .nil, p⟩
  | x :: xs, v :: vs, φ, F, S, n0, φ0, F0, H0, k, g, r, p => by
    have e0 : frs (v :: vs) S = (fr v S).bind fun x S1 => (frs vs S1).bind fun xs S2 => .ok (x :: xs) S2 := rfl
    rw [e0] at p
    have hne : fr v S ≠ .bad := fun e => by rw [e] at p; exact p
    obtain ⟨φ1, F1, S1, d, nw1, f1, e1⟩ := fr_ok g r.1 hne
    rw [e1] at p
    have r1 : RepVs K mg φ1 F1 H S1.length xs vs := r.2.ext nw1.ext nw1.le
    have p1 : PostG τ K mg R W n0 φ0 F0 H0 Q ((frs vs S1).bind fun ds S' => k (d :: ds) S') := by
      have : ((Res.ok d S1).bind fun x S1 => (frs vs S1).bind fun xs S2 => Res.ok (x :: xs) S2).bind k = (frs vs S1).bind fun ds S' => k (d :: ds) S' := by
        show ((frs vs S1).bind fun xs S2 => Res.ok (d :: xs) S2).bind k = _
        cases frs vs S1 <;> rfl
      rw [← this]
      exact p
    obtain ⟨φ2, F2, S2, ds, nw2, f2, p2⟩ := frs_ok (k := fun ds S' => k (d :: ds) S') nw1.sg r1 p1
    exact ⟨φ2, F2, S2, d :: ds, Now.trans g nw1 nw2, .cons (f1.ext nw2.ext.sub nw2.ext.same) f2, p2⟩
  | [], _ :: _, _, _, _, _, _, _, _, _, _, r, _ => r.elim
  | _ :: _, [], _, _, _, _, _, _, _, _, _, r, _ => r.elim
end
def eVar (i : Nat) : Ev := fun ρ S => match ρ[i]? with
  | some (some v) => .ok v S
  | _ => .bad
def eD (x : D) : Ev := fun _ S => .ok (.d x) S
def eGlo (x : Str) : Ev := fun _ S => .ok (.glo x) S
def eTy (T : Ty) : Ev := fun _ S => .ok (.ty T) S
def eBin (o : Vl → Vl → Store → Res Vl) (fa fb : Ev) : Ev := fun ρ S => (fa ρ S).bind fun a S1 => (fb ρ S1).bind fun b S2 => o a b S2
def eUn (o : Vl → Store → Res Vl) (fa : Ev) : Ev := fun ρ S => (fa ρ S).bind fun a S1 => o a S1
def aNil : Av := fun _ S => .ok [] S
def aCons (fe : Ev) (fr : Av) : Av := fun ρ S => (fe ρ S).bind fun v S1 => (fr ρ S1).bind fun vs S2 => .ok (v :: vs) S2
def eFrz (f : Ev) : Ev := fun ρ S => (f ρ S).bind fun v S1 => (fr v S1).bind fun d S2 => .ok (.d d) S2
def eTup (f : Av) : Ev := fun ρ S => (f ρ S).bind fun vs S1 => (frs vs S1).bind fun ds S2 => if ds.length ≤ 1000 then .ok (.d (.tuple ds)) S2 else .bad
def eLst (m : Bool) (f : Av) : Ev := fun ρ S => (f ρ S).bind fun vs S1 => (frs vs S1).bind fun ds S2 => if ds.length ≤ 1000 then mkL m ds S2 else .bad
def eCall (g : Fn) (f : Av) : Ev := fun ρ S => (f ρ S).bind fun vs S1 => g vs S1
def eCallN (n : Nat) (g : Fn) (f : Av) : Ev := fun ρ S => (f ρ S).bind fun vs S1 => if vs.length = n then g vs S1 else .bad
def spN (τ : Tb) (K : PySem.W.Frag) (mg : Str → Option Value) (n : Nat) (g : Fn) : Sp := fun vs H Q E => vs.length = n ∧ spF τ K mg g vs H Q E
def eIf (c : Tv) (fa fb : Ev) : Ev := fun ρ S => (c ρ S).bind fun b S1 => if b = true then fa ρ S1 else fb ρ S1
def eAnd (fa fb : Ev) : Ev := fun ρ S => (fa ρ S).bind fun v S1 => match v with
  | .d (.bool c) => if c = true then fb ρ S1 else .ok (.d (.bool false)) S1
  | _ => .bad
def eOr (fa fb : Ev) : Ev := fun ρ S => (fa ρ S).bind fun v S1 => match v with
  | .d (.bool c) => if c = true then .ok (.d (.bool true)) S1 else fb ρ S1
  | _ => .bad
def eNot (fa : Ev) : Ev := fun ρ S => (fa ρ S).bind fun v S1 => match v with
  | .d (.bool c) => .ok (.d (.bool !c)) S1
  | _ => .bad
def tOf (f : Ev) : Tv := fun ρ S => (f ρ S).bind fun v S1 => match v with
  | .d (.bool c) => .ok c S1
  | _ => .bad
def tAnd (a b : Tv) : Tv := fun ρ S => (a ρ S).bind fun c S1 => if c = true then b ρ S1 else .ok false S1
def tOr (a b : Tv) : Tv := fun ρ S => (a ρ S).bind fun c S1 => if c = true then .ok true S1 else b ρ S1
def tNot (a : Tv) : Tv := fun ρ S => (a ρ S).bind fun c S1 => .ok (!c) S1
def eChain (o o' : Vl → Vl → Store → Res Vl) (fa fb fc : Ev) : Ev := fun ρ S => (fa ρ S).bind fun a S1 => (fb ρ S1).bind fun b S2 => (o a b S2).bind fun z S3 => match z with
  | .d (.bool k) => if k = true then (fc ρ S3).bind fun c S4 => o' b c S4 else .ok (.d (.bool false)) S3
  | _ => .bad
section
variable {X : Cx} {W : WX} {k : Nat} {a b c e : Expr} {es rest : List Expr} {fa fb fc : Ev} {ga gb : Tv} {fs : Av} {pos : Pos}
theorem de_var (i : Nat) {x : Str} (hN : X.N[i]? = some x := by rfl) (hv : Vis X.env.scope x := by first | exact Or.inl rfl | exact Or.inr (Or.inl rfl) | exact Or.inr (Or.inr rfl)) (hd : (x == ("__debug__" : Str)) = false := by decide)
    (hcd : (x == ("__classdict__" : Str)) = false := by decide) : DE τ X W (.Name x pos) (eVar i) := ⟨PE.mono (pe_var hN hv hd hcd) fun σ H Q ⟨φ, F, ρ, S, g, sl, p⟩ => by
  unfold eVar at p
  cases q : ρ[i]? with
  | none => rw [q] at p; exact p.elim
  | some o =>
    cases o with
    | none => rw [q] at p; exact p.elim
    | some v =>
      rw [q] at p
      obtain ⟨x, h1, h2⟩ := sl.2 i v q
      exact ⟨x, h1, Post.ok g p h2⟩⟩
theorem de_c {v : V} {d : D} (h : PE X e (tC v)) (r : ∀ F H, Fz X.K F H v d) : DE τ X W e (eD d) := ⟨PE.mono h fun σ H Q ⟨φ, F, ρ, S, g, sl, p⟩ => Post.ok g p (r F H)⟩
theorem de_int {i : Int} {j : Nat} : DE τ X W (.Constant (.int i) j pos) (eD (.int i)) := de_c pe_int fun _ _ => .int i
theorem de_bl {i : Bool} {j : Nat} : DE τ X W (.Constant (.bool i) j pos) (eD (.bool i)) := de_c pe_bl fun _ _ => .bl i
theorem de_non {j : Nat} : DE τ X W (.Constant .none j pos) (eD .none) := de_c pe_non fun _ _ => .non
theorem de_str {i : Str} {j : Nat} : DE τ X W (.Constant (.str i) j pos) (eD (.str i)) := de_c pe_str fun _ _ => .str i
theorem de_con {x : Str} {v : V} {d : D} {u : Value} (hg : Gl X x) (hm : X.mg x = some u) (r : RelV v u) (f : ∀ F H, Fz X.K F H v d) (hd : (x == ("__debug__" : Str)) = false := by decide) : DE τ X W (.Name x pos) (eD d) := de_c (pe_glob hg hm r hd) f
theorem de_ty {x : Str} {T : Ty} (hg : Gl X x) (hm : X.mg x = none) (hv : bootBuiltins x = some (.type T.name)) (hn : x ≠ "__name__" := by decide) (hd : (x == ("__debug__" : Str)) = false := by decide) : DE τ X W (.Name x pos) (eTy T) :=
  ⟨PE.mono (pe_bltn (v := .ty T.name) hg hm hv rfl hn hd) fun σ H Q ⟨φ, F, ρ, S, g, sl, p⟩ => Post.ok g p rfl⟩
theorem de_glo {x : Str} {v : V} {u : Value} (hg : Gl X x) (hm : X.mg x = some u) (r : RelV v u) (hd : (x == ("__debug__" : Str)) = false := by decide) : DE τ X W (.Name x pos) (eGlo x) :=
  ⟨PE.mono (pe_glob hg hm r hd) fun σ H Q ⟨φ, F, ρ, S, g, sl, p⟩ => Post.ok g p ⟨u, hm, r⟩⟩
def OpOk (τ : Tb) (K : PySem.W.Frag) (mg : Str → Option Value) (r : R2) (o : Vl → Vl → Store → Res Vl) : Prop :=
  ∀ {φ : Nat → Addr} {F : Addr → Prop} {H : Hp} {S : Store} {x y : V} {v u : Vl} {Q : VK} {W : XW}, SG τ K φ F H S → RepV K mg φ F H S.length x v → RepV K mg φ F H S.length y u → Post τ K mg W S.length φ F H Q (o v u S) → r x y H Q
def UnOk (τ : Tb) (K : PySem.W.Frag) (mg : Str → Option Value) (r : V → Hp → VK → Prop) (o : Vl → Store → Res Vl) : Prop :=
  ∀ {φ : Nat → Addr} {F : Addr → Prop} {H : Hp} {S : Store} {x : V} {v : Vl} {Q : VK} {W : XW}, SG τ K φ F H S → RepV K mg φ F H S.length x v → Post τ K mg W S.length φ F H Q (o v S) → r x H Q
def CallOk (τ : Tb) (K : PySem.W.Frag) (mg : Str → Option Value) (r : List V → Hp → VK → Prop) (o : Fn) : Prop :=
  ∀ {φ : Nat → Addr} {F : Addr → Prop} {H : Hp} {S : Store} {x : List V} {v : List Vl} {Q : VK} {W : XW}, SG τ K φ F H S → RepVs K mg φ F H S.length x v → Post τ K mg W S.length φ F H Q (o v S) → r x H Q
theorem OpOk.or {K : PySem.W.Frag} {mg : Str → Option Value} {r r' : R2} {o : Vl → Vl → Store → Res Vl} (h : ∀ {φ : Nat → Addr} {F : Addr → Prop} {H : Hp} {S : Store} {x y : V} {v u : Vl} {Q : VK} {W : XW}, SG τ K φ F H S → RepV K mg φ F H S.length x v → RepV K mg φ F H S.length y u → Post τ K mg W S.length φ F H Q (o v u S) → r x y H Q ∨ r' x y H Q) :
    OpOk τ K mg (fun x y H Q => r x y H Q ∨ r' x y H Q) o := h
theorem re2 {o : Vl → Vl → Store → Res Vl} {r : R2} (ok : OpOk τ X.K X.mg r o) {σ : L2.St} {H : Hp} {Q : VK} (h : RE τ X.K X.mg W (eBin o fa fb) σ H Q) : RE τ X.K X.mg W fa σ H fun x H1 => RE τ X.K X.mg W fb σ H1 fun y H2 => r x y H2 Q := by
  obtain ⟨φ, F, ρ, S, g, sl, p⟩ := h
  refine ⟨φ, F, ρ, S, g, sl, PostG.bind g p fun φ1 F1 H1 S1 v x nw1 r1 p1 => ⟨φ1, F1, ρ, S1, nw1.sg, sl.now nw1, PostG.bind nw1.sg p1 fun φ2 F2 H2 S2 u y nw2 r2 p2 => ?_⟩⟩
  exact ok nw2.sg (r1.now nw2) r2 p2
theorem de_bin {op : Operator} {o : Vl → Vl → Store → Res Vl} {r : R2} (ho : OpR X (binaryOp op) r) (ok : OpOk τ X.K X.mg r o) (ha : DE τ X W a fa) (hb : DE τ X W b fb) : DE τ X W (.BinOp a op b pos) (eBin o fa fb) := ⟨PE.mono (pe_op ho ha.r hb.r) fun _ _ _ h => re2 ok h⟩
theorem de_cmp {op : CmpOp} {o : Vl → Vl → Store → Res Vl} {r : R2} (ho : OpR X (compareOp op) r) (ok : OpOk τ X.K X.mg r o) (ha : DE τ X W a fa) (hb : DE τ X W b fb) (hm : behindInMarks op b = false) : DE τ X W (.Compare a [op] [b] pos) (eBin o fa fb) := ⟨PE.mono (pe_cmpR ho ha.r hb.r hm) fun _ _ _ h => re2 ok h⟩
theorem tof {f : Ev} {t : TE} {σ : L2.St} {H : Hp} {Q : Bool → Hp → Prop} (h : RT τ X.K X.mg W (tOf f) σ H Q) (m : ∀ Q, RE τ X.K X.mg W f σ H Q → t σ H Q) : t σ H fun x H' => ∃ k, x = .bl k ∧ Q k H' := by
  obtain ⟨φ, F, ρ, S, g, sl, p⟩ := h
  refine m _ ⟨φ, F, ρ, S, g, sl, PostG.bind g p fun φ1 F1 H1 S1 v x nw1 r1 p1 => ?_⟩
  cases v with
  | d y =>
    cases y with
    | bool b => cases r1; exact ⟨b, rfl, PostT.ok nw1.sg p1⟩
    | _ => exact p1.elim
  | _ => exact p1.elim
theorem dt_cmp {op : CmpOp} {o : Vl → Vl → Store → Res Vl} {r : R2} (ho : OpR X (compareOp op) r) (ok : OpOk τ X.K X.mg r o) (ha : DE τ X W a fa) (hb : DE τ X W b fb) (hm : behindInMarks op b = false) : DT τ X W (.Compare a [op] [b] pos) (tOf (eBin o fa fb)) := ⟨PT.mono (pt_cmpR ho ha.r hb.r hm) fun _ _ _ h => tof h fun _ h => re2 ok h⟩
theorem dt_val {f : Ev} (h : DE τ X W e f) (he : ∀ whole, isTrue e X.env whole = (do let v ← whole; standAt e.pos; holding [v] (truthy v)) := by intro _; rfl) : DT τ X W e (tOf f) := ⟨PT.mono (pt_val h.r he) fun _ _ _ q => tof q fun _ h => h⟩
theorem rechain {o o' : Vl → Vl → Store → Res Vl} {r r' : R2} (ok : OpOk τ X.K X.mg r o) (ok' : OpOk τ X.K X.mg r' o') {σ : L2.St} {H : Hp} {Q : VK} (h : RE τ X.K X.mg W (eChain o o' fa fb fc) σ H Q) : tChain r r' (RE τ X.K X.mg W fa) (RE τ X.K X.mg W fb) (RE τ X.K X.mg W fc) σ H Q := by
  obtain ⟨φ, F, ρ, S, g, sl, p⟩ := h
  refine ⟨φ, F, ρ, S, g, sl, PostG.bind g p fun φ1 F1 H1 S1 v x nw1 r1 p1 => ⟨φ1, F1, ρ, S1, nw1.sg, sl.now nw1, PostG.bind nw1.sg p1 fun φ2 F2 H2 S2 u y nw2 r2 p2 => ?_⟩⟩
  refine ok nw2.sg (r1.now nw2) r2 (PostG.bind (R' := RepV X.K X.mg) nw2.sg p2 fun φ3 F3 H3 S3 z zv nw3 r3 p3 => ?_)
  cases z with
  | d zd =>
    cases zd with
    | bool kb =>
      cases r3
      refine ⟨kb, rfl, ?_⟩
      cases kb with
      | true =>
        simp only [if_true] at p3 ⊢
        exact ⟨φ3, F3, ρ, S3, nw3.sg, ((sl.now nw1).now nw2).now nw3, PostG.bind nw3.sg p3 fun φ4 F4 H4 S4 w q nw4 r4 p4 => ok' nw4.sg ((r2.now nw3).now nw4) r4 p4⟩
      | false => exact Post.ok nw3.sg p3 (.bl false)
    | _ => exact p3.elim
  | _ => exact p3.elim
theorem de_chain {op op' : CmpOp} {o o' : Vl → Vl → Store → Res Vl} {r r' : R2} (ho : OpR X (compareOp op) r) (ok : OpOk τ X.K X.mg r o) (ho' : OpR X (compareOp op') r') (ok' : OpOk τ X.K X.mg r' o') (ha : DE τ X W a fa) (hb : DE τ X W b fb) (hc : DE τ X W c fc)
    (hm : lastMarks [op, op'] [b, c] = false := by rfl) : DE τ X W (.Compare a [op, op'] [b, c] pos) (eChain o o' fa fb fc) := ⟨PE.mono (pe_chain ho ho' ha.r hb.r hc.r hm) fun _ _ _ h => rechain ok ok' h⟩
theorem dt_chain {op op' : CmpOp} {o o' : Vl → Vl → Store → Res Vl} {r r' : R2} (ho : OpR X (compareOp op) r) (ok : OpOk τ X.K X.mg r o) (ho' : OpR X (compareOp op') r') (ok' : OpOk τ X.K X.mg r' o') (ha : DE τ X W a fa) (hb : DE τ X W b fb) (hc : DE τ X W c fc)
    (hm : lastMarks [op, op'] [b, c] = false := by rfl) : DT τ X W (.Compare a [op, op'] [b, c] pos) (tOf (eChain o o' fa fb fc)) := ⟨PT.mono (pt_chain ho ho' ha.r hb.r hc.r hm) fun _ _ _ h => tof h fun _ h => rechain ok ok' h⟩
theorem de_un {op : UnaryOp} {o : Vl → Store → Res Vl} {r : V → Hp → VK → Prop} (ho : UnR X (unaryOp op) r) (ok : UnOk τ X.K X.mg r o) (ha : DE τ X W a fa) : DE τ X W (.UnaryOp op a pos) (eUn o fa) := ⟨PE.mono (pe_un ho ha.r) fun σ H Q ⟨φ, F, ρ, S, g, sl, p⟩ =>
  ⟨φ, F, ρ, S, g, sl, PostG.bind g p fun φ1 F1 H1 S1 v x nw1 r1 p1 => ok nw1.sg r1 p1⟩⟩
theorem da_nil : DA τ X W [] aNil := ⟨PA.mono pa_nil fun σ H Q ⟨φ, F, ρ, S, g, sl, p⟩ => p _ _ _ (.refl g) [] trivial⟩
theorem da_cons {fe : Ev} {fr : Av} (ha : DE τ X W e fe) (hr : DA τ X W es fr) (hs : starEach (e :: es) X.env = (false, eval e X.env) :: starEach es X.env := by rfl) : DA τ X W (e :: es) (aCons fe fr) := ⟨PA.mono (pa_cons ha.r hr.r hs) fun σ H Q ⟨φ, F, ρ, S, g, sl, p⟩ =>
  ⟨φ, F, ρ, S, g, sl, PostG.bind g p fun φ1 F1 H1 S1 v x nw1 r1 p1 => ⟨φ1, F1, ρ, S1, nw1.sg, sl.now nw1, PostG.bind nw1.sg p1 fun φ2 F2 H2 S2 vs xs nw2 r2 p2 => p2 _ _ _ (.refl nw2.sg) _ ⟨r1.now nw2, r2⟩⟩⟩⟩
theorem de_frz {f : Ev} (h : DE τ X W e f) : DE τ X W e (eFrz f) := ⟨PE.mono h.r fun σ H Q ⟨φ, F, ρ, S, g, sl, p⟩ => ⟨φ, F, ρ, S, g, sl, PostG.bind g p fun φ1 F1 H1 S1 v x nw1 r1 p1 => by
  have hne : fr v S1 ≠ .bad := fun e => by rw [e] at p1; exact p1
  obtain ⟨φ2, F2, S2, d, nw2, f2, e2⟩ := fr_ok nw1.sg r1 hne
  rw [e2] at p1
  exact p1 _ _ _ nw2 _ f2⟩⟩
theorem line1000 {n : Nat} (h : n ≤ 1000) : n ≤ sizeLine := Nat.le_trans h (by decide)
theorem de_tup {x1} (h : DA τ X W es fs) : DE τ X W (.Tuple es x1 pos) (eTup fs) := ⟨PE.mono (pe_tup h.r) fun σ H Q ⟨φ, F, ρ, S, g, sl, p⟩ => ⟨φ, F, ρ, S, g, sl, PostG.bind g p fun φ1 F1 H1 S1 vs xs nw1 r1 p1 => by
  obtain ⟨φ2, F2, S2, ds, nw2, f2, p2⟩ := frs_ok (k := fun ds S2 => if ds.length ≤ 1000 then Res.ok (Vl.d (.tuple ds)) S2 else .bad) nw1.sg r1 p1
  by_cases hl : ds.length ≤ 1000
  · simp only [hl, if_true] at p2
    exact ⟨by rw [f2.len]; exact line1000 hl, Post.newT nw2.sg f2 (PostG.start nw1.sg nw2 p2)⟩
  · simp only [hl, if_false] at p2
    exact p2.elim⟩⟩
theorem de_lst (m : Bool) (h : DA τ X W es fs) : DE τ X W (.List es pos) (eLst m fs) := ⟨PE.mono (pe_lst h.r) fun σ H Q ⟨φ, F, ρ, S, g, sl, p⟩ => ⟨φ, F, ρ, S, g, sl, PostG.bind g p fun φ1 F1 H1 S1 vs xs nw1 r1 p1 => by
  obtain ⟨φ2, F2, S2, ds, nw2, f2, p2⟩ := frs_ok (k := fun ds S2 => if ds.length ≤ 1000 then mkL m ds S2 else .bad) nw1.sg r1 p1
  by_cases hl : ds.length ≤ 1000
  · simp only [hl, if_true] at p2
    exact ⟨by rw [f2.len]; exact line1000 hl, Post.newL nw2.sg f2 (PostG.start nw1.sg nw2 p2)⟩
  · simp only [hl, if_false] at p2
    exact p2.elim⟩⟩
theorem dw_one (h : DT τ X W a ga) : DW τ X W (.BoolOp .And [a] pos) ga := ⟨pw_and1 h.r⟩
theorem dw_or1 (h : DT τ X W a ga) : DW τ X W (.BoolOp .Or [a] pos) ga := ⟨pw_or1 h.r⟩
theorem dw_and (ha : DT τ X W a ga) (hb : DW τ X W (.BoolOp .And (b :: rest) pos) gb) : DW τ X W (.BoolOp .And (a :: b :: rest) pos) (tAnd ga gb) := ⟨PW.mono (pw_and ha.r hb.r) fun σ H Q ⟨φ, F, ρ, S, g, sl, p⟩ => ⟨φ, F, ρ, S, g, sl, PostG.bind (R' := RepB) g p fun φ1 F1 H1 S1 v x nw1 r1 p1 => by
  have r1 : x = v := r1
  subst r1
  cases x with
  | true => exact ⟨φ1, F1, ρ, S1, nw1.sg, sl.now nw1, p1⟩
  | false => exact PostT.ok nw1.sg p1⟩⟩
theorem dw_or (ha : DT τ X W a ga) (hb : DW τ X W (.BoolOp .Or (b :: rest) pos) gb) : DW τ X W (.BoolOp .Or (a :: b :: rest) pos) (tOr ga gb) := ⟨PW.mono (pw_or ha.r hb.r) fun σ H Q ⟨φ, F, ρ, S, g, sl, p⟩ => ⟨φ, F, ρ, S, g, sl, PostG.bind (R' := RepB) g p fun φ1 F1 H1 S1 v x nw1 r1 p1 => by
  have r1 : x = v := r1
  subst r1
  cases x with
  | false => exact ⟨φ1, F1, ρ, S1, nw1.sg, sl.now nw1, p1⟩
  | true => exact PostT.ok nw1.sg p1⟩⟩
theorem DW.t (h : DW τ X W e ga) : DT τ X W e ga := ⟨h.r.pt⟩
theorem dt_not (ha : DT τ X W a ga) : DT τ X W (.UnaryOp .Not a pos) (tNot ga) := ⟨PT.mono (pt_not ha.r) fun σ H Q ⟨φ, F, ρ, S, g, sl, p⟩ => ⟨φ, F, ρ, S, g, sl, PostG.bind (R' := RepB) g p fun φ1 F1 H1 S1 v x nw1 r1 p1 => by
  have r1 : x = v := r1
  subst r1
  exact PostT.ok nw1.sg p1⟩⟩
theorem de_one {op} (h : DE τ X W a fa) : DE τ X W (.BoolOp op [a] pos) fa := ⟨pe_one h.r⟩
theorem de_and (ha : DE τ X W a fa) (hb : DE τ X W (.BoolOp .And (b :: rest) pos) fb) : DE τ X W (.BoolOp .And (a :: b :: rest) pos) (eAnd fa fb) := ⟨PE.mono (pe_and ha.r hb.r) fun σ H Q ⟨φ, F, ρ, S, g, sl, p⟩ => ⟨φ, F, ρ, S, g, sl, PostG.bind g p fun φ1 F1 H1 S1 v x nw1 r1 p1 => by
  cases v with
  | d y =>
    cases y with
    | bool c =>
      cases r1
      refine ⟨c, rfl, ?_⟩
      cases c with
      | true => exact ⟨φ1, F1, ρ, S1, nw1.sg, sl.now nw1, p1⟩
      | false => exact Post.ok nw1.sg p1 (.bl false)
    | _ => exact p1.elim
  | _ => exact p1.elim⟩⟩
theorem de_or (ha : DE τ X W a fa) (hb : DE τ X W (.BoolOp .Or (b :: rest) pos) fb) : DE τ X W (.BoolOp .Or (a :: b :: rest) pos) (eOr fa fb) := ⟨PE.mono (pe_or ha.r hb.r) fun σ H Q ⟨φ, F, ρ, S, g, sl, p⟩ => ⟨φ, F, ρ, S, g, sl, PostG.bind g p fun φ1 F1 H1 S1 v x nw1 r1 p1 => by
  cases v with
  | d y =>
    cases y with
    | bool c =>
      cases r1
      refine ⟨c, rfl, ?_⟩
      cases c with
      | false => exact ⟨φ1, F1, ρ, S1, nw1.sg, sl.now nw1, p1⟩
      | true => exact Post.ok nw1.sg p1 (.bl true)
    | _ => exact p1.elim
  | _ => exact p1.elim⟩⟩
theorem de_not (ha : DE τ X W a fa) : DE τ X W (.UnaryOp .Not a pos) (eNot fa) := ⟨PE.mono (pe_not ha.r) fun σ H Q ⟨φ, F, ρ, S, g, sl, p⟩ => ⟨φ, F, ρ, S, g, sl, PostG.bind g p fun φ1 F1 H1 S1 v x nw1 r1 p1 => by
  cases v with
  | d y =>
    cases y with
    | bool c => cases r1; exact ⟨c, rfl, Post.ok nw1.sg p1 (.bl _)⟩
    | _ => exact p1.elim
  | _ => exact p1.elim⟩⟩
theorem de_if {c : Expr} (hc : DT τ X W c ga) (ha : DE τ X W a fa) (hb : DE τ X W b fb) : DE τ X W (.IfExp c a b pos) (eIf ga fa fb) := ⟨PE.mono (pe_ifExp hc.r ha.r hb.r) fun σ H Q ⟨φ, F, ρ, S, g, sl, p⟩ => ⟨φ, F, ρ, S, g, sl, PostG.bind (R' := RepB) g p fun φ1 F1 H1 S1 v x nw1 r1 p1 => by
  have r1 : x = v := r1
  subst r1
  cases x with
  | true => exact ⟨φ1, F1, ρ, S1, nw1.sg, sl.now nw1, p1⟩
  | false => exact ⟨φ1, F1, ρ, S1, nw1.sg, sl.now nw1, p1⟩⟩⟩
theorem de_call {f : Addr} {fd : FuncData} {ps : List Str} {n : Nat} {g : Fn} {x : Str} {p : Pos} {j : Nat} (cc : Cc X W j) (G : Fk X.prog X.w X.K X.mg X.base k f fd ps (spN τ X.K X.mg n g)) (hj : k ≤ j) (hg : Gl X x) (hm : X.mg x = some (.ref f)) (hk : PySem.W.keepIn X.K (.ref f) = true)
    (hb : Binds X.K fd ps []) (ha : DA τ X W (e :: es) fs) (hdb : (x == ("__debug__" : Str)) = false := by decide) (he : starEach (e :: es) X.env = (false, eval e X.env) :: starEach es X.env := by rfl)
    (hpl : (backTo pos (starEach es X.env)).any (·.1) = false := by rfl) : DE τ X W (.Call (.Name x p) (e :: es) [] pos) (eCallN n g fs) :=
  ⟨PE.mono (pe_callk G (cc.rm.mono hj) cc.gd cc.tk hg hm hk hb ha.r hdb he hpl) fun σ H Q ⟨φ, F, ρ, S, g, sl, p⟩ => ⟨φ, F, ρ, S, g, sl, PostG.bind g p fun φ1 F1 H1 S1 vs xs nw1 r1 p1 => by
    by_cases hl : vs.length = n
    · rw [if_pos hl] at p1
      exact ⟨r1.len.trans hl, φ1, F1, vs, S1, nw1.sg, r1, p1⟩
    · rw [if_neg hl] at p1; exact p1.elim⟩⟩
def eCall0 (n : Nat) (g : Fn) : Ev := fun _ S => if n = 0 then g [] S else .bad
theorem de_call0 {f : Addr} {fd : FuncData} {ps : List Str} {n : Nat} {g : Fn} {x : Str} {p : Pos} {j : Nat} (cc : Cc X W j) (G : Fk X.prog X.w X.K X.mg X.base k f fd ps (spN τ X.K X.mg n g)) (hj : k ≤ j) (hg : Gl X x) (hm : X.mg x = some (.ref f)) (hk : PySem.W.keepIn X.K (.ref f) = true)
    (hb : Binds X.K fd ps []) (hdb : (x == ("__debug__" : Str)) = false := by decide) : DE τ X W (.Call (.Name x p) [] [] pos) (eCall0 n g) :=
  ⟨PE.mono (pe_callk0 G (cc.rm.mono hj) cc.gd cc.tk hg hm hk hb hdb) fun σ H Q ⟨φ, F, ρ, S, gg, sl, p⟩ => by
    unfold eCall0 at p
    by_cases hl : n = 0
    · rw [if_pos hl] at p
      exact ⟨hl.symm, φ, F, [], S, gg, trivial, p⟩
    · rw [if_neg hl] at p; exact p.elim⟩
theorem de_callB {id : String} {x : Str} {p : Pos} {r : List V → Hp → VK → Prop} {o : Fn} (hc : CallR X (.builtin id) r) (ok : CallOk τ X.K X.mg r o) (hg : Gl X x) (hm : X.mg x = none) (hv : bootBuiltins x = some (.builtin id)) (ha : DA τ X W (e :: es) fs) (hn : x ≠ "__name__" := by decide) (hdb : (x == ("__debug__" : Str)) = false := by decide)
    (he : starEach (e :: es) X.env = (false, eval e X.env) :: starEach es X.env := by rfl) (hpl : (backTo pos (starEach es X.env)).any (·.1) = false := by rfl) : DE τ X W (.Call (.Name x p) (e :: es) [] pos) (eCall o fs) :=
  ⟨PE.mono (pe_callB hc hg hm hv ha.r hn hdb he hpl) fun σ H Q ⟨φ, F, ρ, S, g, sl, p⟩ => ⟨φ, F, ρ, S, g, sl, PostG.bind g p fun φ1 F1 H1 S1 vs xs nw1 r1 p1 => ok nw1.sg r1 p1⟩⟩
theorem de_callTy {T : String} {x : Str} {p : Pos} {r : List V → Hp → VK → Prop} {o : Fn} (hc : CallR X (.type T) r) (ok : CallOk τ X.K X.mg r o) (hg : Gl X x) (hm : X.mg x = none) (hv : bootBuiltins x = some (.type T)) (ha : DA τ X W (e :: es) fs) (hn : x ≠ "__name__" := by decide) (hdb : (x == ("__debug__" : Str)) = false := by decide)
    (he : starEach (e :: es) X.env = (false, eval e X.env) :: starEach es X.env := by rfl) (hpl : (backTo pos (starEach es X.env)).any (·.1) = false := by rfl) : DE τ X W (.Call (.Name x p) (e :: es) [] pos) (eCall o fs) :=
  ⟨PE.mono (pe_callTy hc hg hm hv ha.r hn hdb he hpl) fun σ H Q ⟨φ, F, ρ, S, g, sl, p⟩ => ⟨φ, F, ρ, S, g, sl, PostG.bind g p fun φ1 F1 H1 S1 vs xs nw1 r1 p1 => ok nw1.sg r1 p1⟩⟩
end
section
variable {K : PySem.W.Frag} {F : Addr → Prop} {H : Hp}
mutual
theorem Fz.dp : ∀ (d : D) (v : V), Fz K F H v d → d.plain = true → Dp K H v d
  | .none, _, h, _ => by cases h; exact .non
  | .bool b, _, h, _ => by cases h; exact .bl b
  | .int i, _, h, _ => by cases h; exact .int i
  | .str x, _, h, _ => by cases h; exact .str x
  | .list ds, _, h, p => by
    cases h with
    | lst h1 h2 h3 => exact .lst (.inl (.inl h2)) (FzAll.dp ds _ h3 (by simpa [PyData.plain] using p))
  | .tuple ds, _, h, p => by
    cases h with
    | tup h1 h2 => exact .tup h1.sq (FzAll.dp ds _ h2 (by simpa [PyData.plain] using p))
  | .dict ds, _, h, p => by simp [PyData.plain] at p
theorem FzAll.dp : ∀ (ds : List D) (vs : List V), FzAll K F H vs ds → PyData.plainAll ds = true → DpAll K H vs ds
  | [], _, h, _ => by cases h; exact .nil
  | d :: ds, _, h, p => by
    have p' : d.plain = true ∧ PyData.plainAll ds = true := by simpa [PyData.plainAll] using p
    cases h with
    | cons h1 h2 => exact .cons (Fz.dp d _ h1 p'.1) (FzAll.dp ds _ h2 p'.2)
end
theorem Ob.dp {d : D} {x : V} (h : Ob K F H x d) (p : d.plain = true) : Dp K H x d := by
  cases d with
  | none => cases h; exact .non
  | bool b => cases h; exact .bl b
  | int i => cases h; exact .int i
  | str z => cases h; exact .str z
  | list ds => obtain ⟨a, xs, rfl, h1, h2⟩ := h; exact .lst (.inl (.inl h1)) (h2.dp ds xs (by simpa [PyData.plain] using p))
  | tuple ds => obtain ⟨a, xs, rfl, h1, h2⟩ := h; exact .tup h1.sq (h2.dp ds xs (by simpa [PyData.plain] using p))
  | dict ds => simp [PyData.plain] at p
end
def shal (d : D) : Bool := d.plain && decide (d.depth ≤ 60)
def oPost (d : Option D) (S : Store) : Res Vl := match d with
  | some d => .ok (.d d) S
  | none => .bad
def mulOk (i j : Int) : Bool := decide (i.natAbs < 2 ^ 64) || decide (j.natAbs < 2 ^ 64) || (decide (i.natAbs < 2 ^ 4000) && decide (j.natAbs < 2 ^ 4000))
theorem log2_lt {n k : Nat} (h : n < 2 ^ k) : n.log2 ≤ k := by
  by_cases e : n = 0
  · subst e; simp
  · exact Nat.le_of_lt ((Nat.log2_lt e).mpr h)
theorem mulOk_ok {i j : Int} (h : mulOk i j = true) : IntMulOk i j := by
  simp only [mulOk, Bool.or_eq_true, Bool.and_eq_true, decide_eq_true_eq] at h
  rcases h with (h | h) | ⟨h1, h2⟩
  · exact CMul.ok (.inl ⟨by omega, by omega⟩)
  · exact CMul.ok (.inr ⟨by omega, by omega⟩)
  · exact CMulW.ok (by have := log2_lt h1; have := log2_lt h2; unfold CMulW; omega)
theorem natAbs_pow {j : Int} {k : Nat} (h0 : 0 < j) (h : j < 2 ^ k) : j.natAbs < 2 ^ k := by
  have e : (j.natAbs : Int) = j := Int.natAbs_of_nonneg (Int.le_of_lt h0)
  have h3 : (j.natAbs : Int) < ((2 ^ k : Nat) : Int) := by
    rw [e, Int.natCast_pow]
    exact h
  exact Int.ofNat_lt.mp h3
def oAdd (m : Bool) (a b : Vl) (S : Store) : Res Vl := match view S a, view S b with
  | some (.int i), some (.int j) => .ok (.d (.int (i + j))) S
  | some (.str x), some (.str y) => if x.length + y.length ≤ sizeLine then .ok (.d (.str (x ++ y))) S else .bad
  | some (.tuple xs), some (.tuple ys) => if xs.length + ys.length ≤ sizeLine then .ok (.d (.tuple (xs ++ ys))) S else .bad
  | some (.list xs), some (.list ys) => if xs.length + ys.length ≤ sizeLine then mkL m (xs ++ ys) S else .bad
  | _, _ => .bad
def oSub (a b : Vl) (S : Store) : Res Vl := match view S a, view S b with
  | some (.int i), some (.int j) => .ok (.d (.int (i - j))) S
  | _, _ => .bad
def oMul (m : Bool) (a b : Vl) (S : Store) : Res Vl := match view S a, view S b with
  | some (.int i), some (.int j) => if mulOk i j = true then .ok (.d (.int (i * j))) S else .bad
  | some (.list xs), some (.int k) => if -(2 ^ 63) ≤ k ∧ k < 2 ^ 63 ∧ xs.length * k.toNat ≤ sizeLine then mkL m (List.replicate k.toNat xs).flatten S else .bad
  | some (.tuple xs), some (.int k) => if xs ≠ [] ∧ 2 ≤ k ∧ k ≤ 1000 ∧ xs.length ≤ 1000 then .ok (.d (.tuple (List.replicate k.toNat xs).flatten)) S else .bad
  | _, _ => .bad
def oDiv (a b : Vl) (S : Store) : Res Vl := match view S a, view S b with
  | some (.int i), some (.int j) => if 0 < j ∧ j < 2 ^ 4000 then .ok (.d (.int (i / j))) S else if j ≠ 0 ∧ j.natAbs < 1073741824 then .ok (.d (.int (i.fdiv j))) S else .bad
  | _, _ => .bad
def oMod (a b : Vl) (S : Store) : Res Vl := match view S a, view S b with
  | some (.int i), some (.int j) => if 0 < j then .ok (.d (.int (i % j))) S else if j ≠ 0 then .ok (.d (.int (i.fmod j))) S else .bad
  | _, _ => .bad
def oPow (a b : Vl) (S : Store) : Res Vl := match view S a, view S b with
  | some (.int i), some (.int j) => if 0 ≤ j ∧ j ≤ 1000000 ∧ i.natAbs < 2 ^ 64 then .ok (.d (.int (i ^ j.toNat))) S else .bad
  | _, _ => .bad
def oNeg (a : Vl) (S : Store) : Res Vl := match view S a with
  | some (.int i) => .ok (.d (.int (-i))) S
  | _ => .bad
def oEq (a b : Vl) (S : Store) : Res Vl := match view S a, view S b with
  | some x, some y => if (shal x && shal y) = true then .ok (.d (.bool (PyData.eqv x y))) S else .bad
  | _, _ => .bad
def oNe (a b : Vl) (S : Store) : Res Vl := match view S a, view S b with
  | some x, some y => if (shal x && shal y) = true then .ok (.d (.bool !(PyData.eqv x y))) S else .bad
  | _, _ => .bad
def isNone : D → Bool
  | .none => true
  | _ => false
def ordOk (x y : D) : Bool := shal x && shal y && PySem.W.alike x y && !isNone x
def oLt (a b : Vl) (S : Store) : Res Vl := match view S a, view S b with
  | some (.int i), some (.int j) => .ok (.d (.bool (decide (i < j)))) S
  | some x, some y => if ordOk x y = true then .ok (.d (.bool (PySem.W.dataLt x y))) S else .bad
  | _, _ => .bad
def oGt (a b : Vl) (S : Store) : Res Vl := match view S a, view S b with
  | some (.int i), some (.int j) => .ok (.d (.bool (decide (j < i)))) S
  | some x, some y => if ordOk x y = true then .ok (.d (.bool (PySem.W.dataLt y x))) S else .bad
  | _, _ => .bad
def oLe (a b : Vl) (S : Store) : Res Vl := match view S a, view S b with
  | some (.int i), some (.int j) => .ok (.d (.bool (decide (i ≤ j)))) S
  | some x, some y => if ordOk x y = true then .ok (.d (.bool !(PySem.W.dataLt y x))) S else .bad
  | _, _ => .bad
def oGe (a b : Vl) (S : Store) : Res Vl := match view S a, view S b with
  | some (.int i), some (.int j) => .ok (.d (.bool (decide (j ≤ i)))) S
  | some x, some y => if ordOk x y = true then .ok (.d (.bool !(PySem.W.dataLt x y))) S else .bad
  | _, _ => .bad
def isIn (x : D) (ys : List D) : Bool := ys.any fun y => PyData.eqv y x
def oIn (neg : Bool) (a b : Vl) (S : Store) : Res Vl := match view S a, view S b with
  | some x, some (.list ys) => if (shal x && shal (.list ys)) = true then .ok (.d (.bool (if neg = true then !isIn x ys else isIn x ys))) S else .bad
  | some x, some (.tuple ys) => if (shal x && shal (.tuple ys)) = true then .ok (.d (.bool (if neg = true then !isIn x ys else isIn x ys))) S else .bad
  | _, _ => .bad
def oIs (neg : Bool) (a b : Vl) (S : Store) : Res Vl := match view S b with
  | some .none => match view S a with
    | some x => .ok (.d (.bool (if neg = true then !isNone x else isNone x))) S
    | _ => .bad
  | some (.bool q) => match view S a with
    | some (.bool p) => .ok (.d (.bool (if neg = true then !decide (p = q) else decide (p = q)))) S
    | _ => .bad
  | _ => .bad
def oIx (a b : Vl) (S : Store) : Res Vl := match view S a, view S b with
  | some (.list xs), some (.int i) => oPost (atI xs i) S
  | some (.tuple xs), some (.int i) => oPost (atI xs i) S
  | some (.str z), some (.int i) => if z.length ≤ sizeLine then oPost ((atI z.cps.toList i).map fun c => .str ⟨#[c]⟩) S else .bad
  | _, _ => .bad
section
variable {K : PySem.W.Frag} {mg : Str → Option Value} {φ : Nat → Addr} {F : Addr → Prop} {H : Hp} {S : Store} {x y : V} {v u : Vl} {Q : VK} {W : XW} {n : Nat} {m : Bool}
theorem FzAll.flat {xs : List V} {ds : List D} (h : FzAll K F H xs ds) : ∀ n, FzAll K F H (List.replicate n xs).flatten (List.replicate n ds).flatten
  | 0 => .nil
  | n + 1 => by
    rw [List.replicate_succ, List.replicate_succ, List.flatten_cons, List.flatten_cons]
    exact h.append (FzAll.flat h n)
theorem post_bad {v u : Vl} (p : Post τ K mg W n φ F H Q .bad) : False := p
def rMulX : R2 := rI (fun i j => mulOk i j = true) fun i j => .int (i * j)
def rDivX : R2 := rI (fun i j => 0 < j ∧ j < 2 ^ 4000) fun i j => .int (i / j)
theorem ok_add : OpOk τ K mg (fun x y H Q => rI0 (fun i j => V.int (i + j)) x y H Q ∨ (∃ i j, x = .str i ∧ y = .str j ∧ i.length + j.length ≤ sizeLine ∧ Q (.str (i ++ j)) H) ∨ rCatA K x y H Q ∨ rCat x y H Q) (oAdd m) := by
  intro φ F H S x y v u Q W g r1 r2 p
  cases e1 : view S v with
  | none => simp only [oAdd, e1] at p; exact p.elim
  | some d1 =>
    cases e2 : view S u with
    | none => simp only [oAdd, e1, e2] at p; exact p.elim
    | some d2 =>
      have o1 := ob_of g r1 e1
      have o2 := ob_of g r2 e2
      simp only [oAdd, e1, e2] at p
      cases d1 <;> cases d2 <;> dsimp only at p <;> first | exact p.elim | skip
      · exact .inl ⟨_, _, o1, o2, Post.ok g p (.int _)⟩
      · rename_i i j
        by_cases hl : i.length + j.length ≤ sizeLine
        · simp only [hl, if_true] at p
          exact .inr (.inl ⟨_, _, o1, o2, hl, Post.ok g p (.str _)⟩)
        · simp only [hl, if_false] at p; exact p.elim
      · rename_i ds es
        by_cases hl : ds.length + es.length ≤ sizeLine
        · simp only [hl, if_true] at p
          obtain ⟨a, xs, h1, h2, h3⟩ := o1
          obtain ⟨b, ys, h4, h5, h6⟩ := o2
          exact .inr (.inr (.inr ⟨a, b, xs, ys, h1, h4, h2, h5, by rw [h3.len, h6.len]; exact hl, Post.newL g (h3.append h6) p⟩))
        · simp only [hl, if_false] at p; exact p.elim
      · rename_i ds es
        by_cases hl : ds.length + es.length ≤ sizeLine
        · simp only [hl, if_true] at p
          obtain ⟨a, xs, h1, h2, h3⟩ := o1
          obtain ⟨b, ys, h4, h5, h6⟩ := o2
          refine .inr (.inr (.inl ⟨a, b, xs, ys, h1, h4, h2.sq, h5.sq, by rw [h3.len, h6.len]; exact hl, fun e => ?_, fun e e' => ?_, fun e e' => Post.newT g (h3.append h6) p⟩))
          · subst e
            cases h3
            exact Post.ok g p (.tup h5 h6)
          · subst e'
            cases h6
            rw [List.append_nil] at p
            exact Post.ok g p (.tup h2 h3)
        · simp only [hl, if_false] at p; exact p.elim
theorem ok_sub : OpOk τ K mg (rI0 fun i j => V.int (i - j)) oSub := by
  intro φ F H S x y v u Q W g r1 r2 p
  cases e1 : view S v with
  | none => simp only [oSub, e1] at p; exact p.elim
  | some d1 =>
    cases e2 : view S u with
    | none => simp only [oSub, e1, e2] at p; cases d1 <;> exact p.elim
    | some d2 =>
      have o1 := ob_of g r1 e1
      have o2 := ob_of g r2 e2
      simp only [oSub, e1, e2] at p
      cases d1 <;> cases d2 <;> dsimp only at p <;> first | exact p.elim | skip
      exact ⟨_, _, o1, o2, Post.ok g p (.int _)⟩
theorem ok_mul : OpOk τ K mg (fun x y H Q => rMulX x y H Q ∨ rRep x y H Q ∨ rRepT K x y H Q) (oMul m) := by
  intro φ F H S x y v u Q W g r1 r2 p
  cases e1 : view S v with
  | none => simp only [oMul, e1] at p; exact p.elim
  | some d1 =>
    cases e2 : view S u with
    | none => simp only [oMul, e1, e2] at p; cases d1 <;> exact p.elim
    | some d2 =>
      have o1 := ob_of g r1 e1
      have o2 := ob_of g r2 e2
      simp only [oMul, e1, e2] at p
      cases d1 <;> cases d2 <;> dsimp only at p <;> first | exact p.elim | skip
      · rename_i i j
        by_cases hl : mulOk i j = true
        · simp only [hl, if_true] at p
          exact .inl ⟨_, _, o1, o2, hl, Post.ok g p (.int _)⟩
        · simp only [hl] at p; exact p.elim
      · rename_i ds k
        by_cases hl : -(2 ^ 63) ≤ k ∧ k < 2 ^ 63 ∧ ds.length * k.toNat ≤ sizeLine
        · rw [if_pos hl] at p
          obtain ⟨a, xs, h1, h2, h3⟩ := o1
          exact .inr (.inl ⟨a, k, xs, h1, o2, h2, hl.1, hl.2.1, by rw [h3.len]; exact hl.2.2, Post.newL g (h3.flat _) p⟩)
        · rw [if_neg hl] at p; exact p.elim
      · rename_i ds k
        by_cases hl : ds ≠ [] ∧ 2 ≤ k ∧ k ≤ 1000 ∧ ds.length ≤ 1000
        · rw [if_pos hl] at p
          obtain ⟨a, xs, h1, h2, h3⟩ := o1
          exact .inr (.inr ⟨a, k, xs, h1, o2, h2.sq, fun e => hl.1 (by subst e; cases h3; rfl), hl.2.1, hl.2.2.1, by rw [h3.len]; exact hl.2.2.2, Post.newT g (h3.flat _) p⟩)
        · rw [if_neg hl] at p; exact p.elim
theorem ok_div : OpOk τ K mg (fun x y H Q => rDivX x y H Q ∨ rI CDivN (fun i j => V.int (i.fdiv j)) x y H Q) oDiv := by
  intro φ F H S x y v u Q W g r1 r2 p
  cases e1 : view S v with
  | none => simp only [oDiv, e1] at p; exact p.elim
  | some d1 =>
    cases e2 : view S u with
    | none => simp only [oDiv, e1, e2] at p; cases d1 <;> exact p.elim
    | some d2 =>
      have o1 := ob_of g r1 e1
      have o2 := ob_of g r2 e2
      simp only [oDiv, e1, e2] at p
      cases d1 <;> cases d2 <;> dsimp only at p <;> first | exact p.elim | skip
      rename_i i j
      by_cases hl : 0 < j ∧ j < 2 ^ 4000
      · rw [if_pos hl] at p
        exact .inl ⟨_, _, o1, o2, hl, Post.ok g p (.int _)⟩
      · rw [if_neg hl] at p
        by_cases h2 : j ≠ 0 ∧ j.natAbs < 1073741824
        · rw [if_pos h2] at p
          exact .inr ⟨_, _, o1, o2, h2, Post.ok g p (.int _)⟩
        · rw [if_neg h2] at p; exact p.elim
theorem ok_mod : OpOk τ K mg (fun x y H Q => rI (fun _ j => 0 < j) (fun i j => V.int (i % j)) x y H Q ∨ rI (fun _ j => j ≠ 0) (fun i j => V.int (i.fmod j)) x y H Q) oMod := by
  intro φ F H S x y v u Q W g r1 r2 p
  cases e1 : view S v with
  | none => simp only [oMod, e1] at p; exact p.elim
  | some d1 =>
    cases e2 : view S u with
    | none => simp only [oMod, e1, e2] at p; cases d1 <;> exact p.elim
    | some d2 =>
      have o1 := ob_of g r1 e1
      have o2 := ob_of g r2 e2
      simp only [oMod, e1, e2] at p
      cases d1 <;> cases d2 <;> dsimp only at p <;> first | exact p.elim | skip
      rename_i i j
      by_cases hl : 0 < j
      · rw [if_pos hl] at p
        exact .inl ⟨_, _, o1, o2, hl, Post.ok g p (.int _)⟩
      · rw [if_neg hl] at p
        by_cases h2 : j ≠ 0
        · rw [if_pos h2] at p
          exact .inr ⟨_, _, o1, o2, h2, Post.ok g p (.int _)⟩
        · rw [if_neg h2] at p; exact p.elim
theorem ok_pow : OpOk τ K mg (rI CPow fun i j => V.int (i ^ j.toNat)) oPow := by
  intro φ F H S x y v u Q W g r1 r2 p
  cases e1 : view S v with
  | none => simp only [oPow, e1] at p; exact p.elim
  | some d1 =>
    cases e2 : view S u with
    | none => simp only [oPow, e1, e2] at p; cases d1 <;> exact p.elim
    | some d2 =>
      have o1 := ob_of g r1 e1
      have o2 := ob_of g r2 e2
      simp only [oPow, e1, e2] at p
      cases d1 <;> cases d2 <;> dsimp only at p <;> first | exact p.elim | skip
      rename_i i j
      by_cases hl : 0 ≤ j ∧ j ≤ 1000000 ∧ i.natAbs < 2 ^ 64
      · rw [if_pos hl] at p
        exact ⟨_, _, o1, o2, hl, Post.ok g p (.int _)⟩
      · rw [if_neg hl] at p; exact p.elim
theorem ok_neg : UnOk τ K mg (rU fun i => V.int (-i)) oNeg := by
  intro φ F H S x v Q W g r1 p
  cases e1 : view S v with
  | none => simp only [oNeg, e1] at p; exact p.elim
  | some d1 =>
    have o1 := ob_of g r1 e1
    simp only [oNeg, e1] at p
    cases d1 <;> first | exact p.elim | skip
    exact ⟨_, o1, Post.ok g p (.int _)⟩
def rDD (K : PySem.W.Frag) (c : D → D → Bool) (f : D → D → Bool) : R2 := fun x y H Q => ∃ d e, Dp K H x d ∧ Dp K H y e ∧ shal d = true ∧ shal e = true ∧ c d e = true ∧ Q (.bl (f d e)) H
theorem shal_p {d : D} (h : shal d = true) : d.plain = true ∧ d.depth ≤ 60 := by simpa [shal] using h
theorem ok_eq : OpOk τ K mg (rDD K (fun _ _ => true) PyData.eqv) oEq := by
  intro φ F H S x y v u Q W g r1 r2 p
  cases e1 : view S v with
  | none => simp only [oEq, e1] at p; exact p.elim
  | some d1 =>
    cases e2 : view S u with
    | none => simp only [oEq, e1, e2] at p; exact p.elim
    | some d2 =>
      simp only [oEq, e1, e2] at p
      by_cases hl : (shal d1 && shal d2) = true
      · rw [if_pos hl] at p
        have h2 : shal d1 = true ∧ shal d2 = true := by simpa using hl
        exact ⟨d1, d2, (ob_of g r1 e1).dp (shal_p h2.1).1, (ob_of g r2 e2).dp (shal_p h2.2).1, h2.1, h2.2, rfl, Post.ok g p (.bl _)⟩
      · rw [if_neg hl] at p; exact p.elim
theorem ok_ne : OpOk τ K mg (rDD K (fun _ _ => true) fun d e => !PyData.eqv d e) oNe := by
  intro φ F H S x y v u Q W g r1 r2 p
  cases e1 : view S v with
  | none => simp only [oNe, e1] at p; exact p.elim
  | some d1 =>
    cases e2 : view S u with
    | none => simp only [oNe, e1, e2] at p; exact p.elim
    | some d2 =>
      simp only [oNe, e1, e2] at p
      by_cases hl : (shal d1 && shal d2) = true
      · rw [if_pos hl] at p
        have h2 : shal d1 = true ∧ shal d2 = true := by simpa using hl
        exact ⟨d1, d2, (ob_of g r1 e1).dp (shal_p h2.1).1, (ob_of g r2 e2).dp (shal_p h2.2).1, h2.1, h2.2, rfl, Post.ok g p (.bl _)⟩
      · rw [if_neg hl] at p; exact p.elim
def rOrd (K : PySem.W.Frag) (fi : Int → Int → Bool) (f : D → D → Bool) : R2 := fun x y H Q => rI0 (fun i j => V.bl (fi i j)) x y H Q ∨ rDD K ordOk f x y H Q
theorem ordOk_p {x y : D} (h : ordOk x y = true) : shal x = true ∧ shal y = true ∧ PySem.W.alike x y = true ∧ x ≠ .none := by
  simp only [ordOk, Bool.and_eq_true, Bool.not_eq_true'] at h
  obtain ⟨⟨⟨h1, h2⟩, h3⟩, h4⟩ := h
  exact ⟨h1, h2, h3, fun e => by subst e; cases h4⟩
theorem ok_ord {o : Vl → Vl → Store → Res Vl} {fi : Int → Int → Bool} {f : D → D → Bool} (h0 : ∀ v u S, (view S v = none ∨ view S u = none) → o v u S = .bad) (h1 : ∀ v u S i j, view S v = some (.int i) → view S u = some (.int j) → o v u S = .ok (.d (.bool (fi i j))) S)
    (h2 : ∀ v u S d1 d2, view S v = some d1 → view S u = some d2 → (¬ ∃ i j, d1 = .int i ∧ d2 = .int j) → o v u S = if ordOk d1 d2 = true then .ok (.d (.bool (f d1 d2))) S else .bad) : OpOk τ K mg (rOrd K fi f) o := by
  intro φ F H S x y v u Q W g r1 r2 p
  cases e1 : view S v with
  | none => rw [h0 v u S (.inl e1)] at p; exact p.elim
  | some d1 =>
    cases e2 : view S u with
    | none => rw [h0 v u S (.inr e2)] at p; exact p.elim
    | some d2 =>
      have o1 := ob_of g r1 e1
      have o2 := ob_of g r2 e2
      by_cases q : ∃ i j, d1 = .int i ∧ d2 = .int j
      · obtain ⟨i, j, rfl, rfl⟩ := q
        rw [h1 v u S i j e1 e2] at p
        exact .inl ⟨_, _, o1, o2, Post.ok g p (.bl _)⟩
      · rw [h2 v u S d1 d2 e1 e2 q] at p
        by_cases hl : ordOk d1 d2 = true
        · rw [if_pos hl] at p
          exact .inr ⟨d1, d2, o1.dp (shal_p (ordOk_p hl).1).1, o2.dp (shal_p (ordOk_p hl).2.1).1, (ordOk_p hl).1, (ordOk_p hl).2.1, hl, Post.ok g p (.bl _)⟩
        · rw [if_neg hl] at p; exact p.elim
theorem ok_lt : OpOk τ K mg (rOrd K (fun i j => decide (i < j)) PySem.W.dataLt) oLt := by
  refine ok_ord (fun v u S h => ?_) (fun v u S i j h1 h2 => by simp only [oLt, h1, h2]) fun v u S d1 d2 h1 h2 n => ?_
  · unfold oLt
    rcases h with h | h
    · simp only [h]
    · cases e : view S v with
      | none => simp only [h]
      | some d => simp only [h]
  · simp only [oLt, h1, h2]
    cases d1 <;> cases d2 <;> first | rfl | exact (n ⟨_, _, rfl, rfl⟩).elim
theorem ok_gt : OpOk τ K mg (rOrd K (fun i j => decide (j < i)) fun d e => PySem.W.dataLt e d) oGt := by
  refine ok_ord (fun v u S h => ?_) (fun v u S i j h1 h2 => by simp only [oGt, h1, h2]) fun v u S d1 d2 h1 h2 n => ?_
  · unfold oGt
    rcases h with h | h
    · simp only [h]
    · cases e : view S v with
      | none => simp only [h]
      | some d => simp only [h]
  · simp only [oGt, h1, h2]
    cases d1 <;> cases d2 <;> first | rfl | exact (n ⟨_, _, rfl, rfl⟩).elim
theorem ok_le : OpOk τ K mg (rOrd K (fun i j => decide (i ≤ j)) fun d e => !PySem.W.dataLt e d) oLe := by
  refine ok_ord (fun v u S h => ?_) (fun v u S i j h1 h2 => by simp only [oLe, h1, h2]) fun v u S d1 d2 h1 h2 n => ?_
  · unfold oLe
    rcases h with h | h
    · simp only [h]
    · cases e : view S v with
      | none => simp only [h]
      | some d => simp only [h]
  · simp only [oLe, h1, h2]
    cases d1 <;> cases d2 <;> first | rfl | exact (n ⟨_, _, rfl, rfl⟩).elim
theorem ok_ge : OpOk τ K mg (rOrd K (fun i j => decide (j ≤ i)) fun d e => !PySem.W.dataLt d e) oGe := by
  refine ok_ord (fun v u S h => ?_) (fun v u S i j h1 h2 => by simp only [oGe, h1, h2]) fun v u S d1 d2 h1 h2 n => ?_
  · unfold oGe
    rcases h with h | h
    · simp only [h]
    · cases e : view S v with
      | none => simp only [h]
      | some d => simp only [h]
  · simp only [oGe, h1, h2]
    cases d1 <;> cases d2 <;> first | rfl | exact (n ⟨_, _, rfl, rfl⟩).elim
def rInP (K : PySem.W.Frag) (neg : Bool) : R2 := fun x y H Q => ∃ d es, Dp K H x d ∧ (Dp K H y (.list es) ∨ Dp K H y (.tuple es)) ∧ shal d = true ∧ shal (.list es) = true ∧ Q (.bl (if neg = true then !isIn d es else isIn d es)) H
theorem shal_tup {es : List D} : shal (.tuple es) = shal (.list es) := by simp [shal, PyData.plain, PyData.depth]
theorem ok_in {neg : Bool} : OpOk τ K mg (rInP K neg) (oIn neg) := by
  intro φ F H S x y v u Q W g r1 r2 p
  cases e1 : view S v with
  | none => simp only [oIn, e1] at p; exact p.elim
  | some d1 =>
    cases e2 : view S u with
    | none => simp only [oIn, e1, e2] at p; exact p.elim
    | some d2 =>
      simp only [oIn, e1, e2] at p
      cases d2 <;> dsimp only at p <;> first | exact p.elim | skip
      · rename_i es
        by_cases hl : (shal d1 && shal (.list es)) = true
        · rw [if_pos hl] at p
          have h2 : shal d1 = true ∧ shal (.list es) = true := by simpa using hl
          exact ⟨d1, es, (ob_of g r1 e1).dp (shal_p h2.1).1, .inl ((ob_of g r2 e2).dp (shal_p h2.2).1), h2.1, h2.2, Post.ok g p (.bl _)⟩
        · rw [if_neg hl] at p; exact p.elim
      · rename_i es
        by_cases hl : (shal d1 && shal (.tuple es)) = true
        · rw [if_pos hl] at p
          have h2 : shal d1 = true ∧ shal (.tuple es) = true := by simpa using hl
          exact ⟨d1, es, (ob_of g r1 e1).dp (shal_p h2.1).1, .inr ((ob_of g r2 e2).dp (shal_p h2.2).1), h2.1, by rw [← shal_tup]; exact h2.2, Post.ok g p (.bl _)⟩
        · rw [if_neg hl] at p; exact p.elim
def rIsX (neg : Bool) : R2 := fun x y H Q => (y = .non ∧ Q (.bl (if neg = true then !decide (x = .non) else decide (x = .non))) H) ∨ ∃ a b : Bool, x = .bl a ∧ y = .bl b ∧ Q (.bl (if neg = true then !decide (a = b) else decide (a = b))) H
theorem isNone_ob {d : D} (o : Ob K F H x d) : decide (x = .non) = isNone d := by
  cases d with
  | none => cases o; rfl
  | bool b => cases o; rfl
  | int b => cases o; rfl
  | str b => cases o; rfl
  | list b => obtain ⟨a, xs, rfl, _⟩ := o; rfl
  | tuple b => obtain ⟨a, xs, rfl, _⟩ := o; rfl
  | dict b => obtain ⟨a, xs, rfl, _⟩ := o; rfl
theorem ok_is {neg : Bool} : OpOk τ K mg (rIsX neg) (oIs neg) := by
  intro φ F H S x y v u Q W g r1 r2 p
  cases e2 : view S u with
  | none => simp only [oIs, e2] at p; exact p.elim
  | some d2 =>
    have o2 := ob_of g r2 e2
    simp only [oIs, e2] at p
    cases d2 <;> first | exact p.elim | skip
    · cases e1 : view S v with
      | none => simp only [e1] at p; exact p.elim
      | some d1 =>
        simp only [e1] at p
        refine .inl ⟨o2, ?_⟩
        rw [isNone_ob (ob_of g r1 e1)]
        exact Post.ok g p (.bl _)
    · cases e1 : view S v with
      | none => simp only [e1] at p; exact p.elim
      | some d1 =>
        simp only [e1] at p
        cases d1 <;> first | exact p.elim | skip
        exact .inr ⟨_, _, ob_of g r1 e1, o2, Post.ok g p (.bl _)⟩
theorem FzAll.atI {xs : List V} {ds : List D} {i : Int} {d : D} (h : FzAll K F H xs ds) (e : atI ds i = some d) : ∃ v, atI xs i = some v ∧ Fz K F H v d := by
  unfold L2.atI at e ⊢
  rw [h.len]
  cases q : ixN ds.length i with
  | none => rw [q] at e; cases e
  | some j =>
    rw [q] at e
    exact h.get e
theorem ok_ix : OpOk τ K mg (rIx K) oIx := by
  intro φ F H S x y v u Q W g r1 r2 p
  cases e1 : view S v with
  | none => simp only [oIx, e1] at p; exact p.elim
  | some d1 =>
    cases e2 : view S u with
    | none => simp only [oIx, e1, e2] at p; cases d1 <;> exact p.elim
    | some d2 =>
      have o1 := ob_of g r1 e1
      have o2 := ob_of g r2 e2
      simp only [oIx, e1, e2] at p
      cases d1 <;> cases d2 <;> dsimp only at p <;> first | exact p.elim | skip
      · rename_i z i
        by_cases hl : z.length ≤ sizeLine
        · rw [if_pos hl] at p
          cases q : atI z.cps.toList i with
          | none => rw [q] at p; exact p.elim
          | some c =>
            rw [q] at p
            exact .inr (.inr ⟨z, i, c, o1, o2, hl, q, Post.ok g p (.str _)⟩)
        · rw [if_neg hl] at p; exact p.elim
      · rename_i ds i
        obtain ⟨a, xs, h1, h2, h3⟩ := o1
        cases q : atI ds i with
        | none => rw [q] at p; exact p.elim
        | some d =>
          rw [q] at p
          obtain ⟨w, hw, fw⟩ := h3.atI q
          exact .inl ⟨a, xs, i, w, h1, o2, .inl (.inl h2), hw, Post.ok g p fw⟩
      · rename_i ds i
        obtain ⟨a, xs, h1, h2, h3⟩ := o1
        cases q : atI ds i with
        | none => rw [q] at p; exact p.elim
        | some d =>
          rw [q] at p
          obtain ⟨w, hw, fw⟩ := h3.atI q
          exact .inr (.inl ⟨a, xs, i, w, h1, o2, h2.sq, hw, Post.ok g p fw⟩)
end
section
variable {X : Cx}
theorem op_addX : OpR X (binaryOp .Add) (fun x y H Q => rI0 (fun i j => V.int (i + j)) x y H Q ∨ (∃ i j, x = .str i ∧ y = .str j ∧ i.length + j.length ≤ sizeLine ∧ Q (.str (i ++ j)) H) ∨ rCatA X.K x y H Q ∨ rCat x y H Q) := op_add.or (op_add_str.or (op_catA.or op_cat))
theorem op_mulX' : OpR X (binaryOp .Mult) (fun x y H Q => rMulX x y H Q ∨ rRep x y H Q ∨ rRepT X.K x y H Q) := OpR.or (opI fun _ _ _ _ _ _ _ hc q => mul_int q (mulOk_ok hc)) (op_rep.or op_repT)
theorem op_divX : OpR X (binaryOp .FloorDiv) (fun x y H Q => rDivX x y H Q ∨ rI CDivN (fun i j => V.int (i.fdiv j)) x y H Q) := by
  refine OpR.or (fun pins s σ H x y v u Q I rx ry h => ?_) op_fdivN
  obtain ⟨i, j, e1, e2, ⟨h1, h2⟩, q⟩ := h
  refine op_fdivW pins s σ H x y v u Q I rx ry ⟨i, j, e1, e2, ⟨h1, ?_⟩, q⟩
  exact Nat.lt_of_le_of_lt (log2_lt (natAbs_pow h1 h2)) (by decide)
theorem op_modX : OpR X (binaryOp .Mod) (fun x y H Q => rI (fun _ j => 0 < j) (fun i j => V.int (i % j)) x y H Q ∨ rI (fun _ j => j ≠ 0) (fun i j => V.int (i.fmod j)) x y H Q) := op_mod.or op_modN
theorem depth_min {A : Around} {d e : D} (hu : A.units + 64 < cLine) (h : shal d = true) : A.units + min d.depth e.depth < cLine := by
  have := (shal_p h).2
  omega
theorem op_eqX (hu : X.A.units + 64 < cLine) : OpR X (compareOp .Eq) (rDD X.K (fun _ _ => true) PyData.eqv) := by
  intro pins s σ H x y v u Q I rx ry h
  obtain ⟨d, e, hd, he, sd, se, _, q⟩ := h
  obtain ⟨as, r1⟩ := Dp.reads I d x v hd rx
  obtain ⟨bs, r2⟩ := Dp.reads I e y u he ry
  exact PySem.SeqAt.eq_plain r1 r2 (shal_p sd).1 (shal_p se).1 (depth_min hu sd) ⟨.bl _, H, I, rfl, q⟩
theorem op_neX (hu : X.A.units + 64 < cLine) : OpR X (compareOp .NotEq) (rDD X.K (fun _ _ => true) fun d e => !PyData.eqv d e) := by
  intro pins s σ H x y v u Q I rx ry h
  obtain ⟨d, e, hd, he, sd, se, _, q⟩ := h
  obtain ⟨as, r1⟩ := Dp.reads I d x v hd rx
  obtain ⟨bs, r2⟩ := Dp.reads I e y u he ry
  exact PySem.SeqAt.ne_plain r1 r2 (shal_p sd).1 (shal_p se).1 (depth_min hu sd) ⟨.bl _, H, I, rfl, q⟩
theorem op_ltX (hu : X.A.units + 64 < cLine) : OpR X (compareOp .Lt) (rOrd X.K (fun i j => decide (i < j)) PySem.W.dataLt) := by
  refine OpR.or op_lt fun pins s σ H x y v u Q I rx ry h => ?_
  obtain ⟨d, e, hd, he, sd, se, c, q⟩ := h
  obtain ⟨as, r1⟩ := Dp.reads I d x v hd rx
  obtain ⟨bs, r2⟩ := Dp.reads I e y u he ry
  exact PySem.W.lt_data r1 r2 (ordOk_p c).2.2.1 (ordOk_p c).2.2.2 (depth_min hu sd) ⟨.bl _, H, I, rfl, q⟩
theorem op_gtX (hu : X.A.units + 64 < cLine) : OpR X (compareOp .Gt) (rOrd X.K (fun i j => decide (j < i)) fun d e => PySem.W.dataLt e d) := by
  refine OpR.or op_gt fun pins s σ H x y v u Q I rx ry h => ?_
  obtain ⟨d, e, hd, he, sd, se, c, q⟩ := h
  obtain ⟨as, r1⟩ := Dp.reads I d x v hd rx
  obtain ⟨bs, r2⟩ := Dp.reads I e y u he ry
  exact PySem.W.gt_data r1 r2 (ordOk_p c).2.2.1 (ordOk_p c).2.2.2 (depth_min hu sd) ⟨.bl _, H, I, rfl, q⟩
theorem op_leX (hu : X.A.units + 64 < cLine) : OpR X (compareOp .LtE) (rOrd X.K (fun i j => decide (i ≤ j)) fun d e => !PySem.W.dataLt e d) := by
  refine OpR.or op_le fun pins s σ H x y v u Q I rx ry h => ?_
  obtain ⟨d, e, hd, he, sd, se, c, q⟩ := h
  obtain ⟨as, r1⟩ := Dp.reads I d x v hd rx
  obtain ⟨bs, r2⟩ := Dp.reads I e y u he ry
  exact PySem.W.le_data r1 r2 (ordOk_p c).2.2.1 (ordOk_p c).2.2.2 (depth_min hu sd) ⟨.bl _, H, I, rfl, q⟩
theorem op_geX (hu : X.A.units + 64 < cLine) : OpR X (compareOp .GtE) (rOrd X.K (fun i j => decide (j ≤ i)) fun d e => !PySem.W.dataLt d e) := by
  refine OpR.or op_ge fun pins s σ H x y v u Q I rx ry h => ?_
  obtain ⟨d, e, hd, he, sd, se, c, q⟩ := h
  obtain ⟨as, r1⟩ := Dp.reads I d x v hd rx
  obtain ⟨bs, r2⟩ := Dp.reads I e y u he ry
  exact PySem.W.ge_data r1 r2 (ordOk_p c).2.2.1 (ordOk_p c).2.2.2 (depth_min hu sd) ⟨.bl _, H, I, rfl, q⟩
theorem shal_list {es : List D} (h : shal (.list es) = true) : PyData.plainAll es = true ∧ PyData.depthAll es ≤ 59 := by
  have := shal_p h
  simp only [PyData.plain, PyData.depth] at this
  exact ⟨this.1, by omega⟩
theorem op_inX (hu : X.A.units + 64 < cLine) : OpR X (compareOp .In) (rInP X.K false) := by
  intro pins s σ H x y v u Q I rx ry h
  obtain ⟨d, es, hd, he, sd, se, q⟩ := h
  obtain ⟨as, r1⟩ := Dp.reads I d x v hd rx
  have hr : X.A.units + 1 + min (PyData.depthAll es) d.depth < cLine := by have := (shal_p sd).2; omega
  rcases he with he | he
  · obtain ⟨bs, r2⟩ := Dp.reads I _ y u he ry
    exact PySem.SeqAt.in_list_data r2 r1 (shal_list se).1 (shal_p sd).1 hr ⟨.bl _, H, I, rfl, q⟩
  · obtain ⟨bs, r2⟩ := Dp.reads I _ y u he ry
    exact PySem.SeqAt.in_tuple_data r2 r1 (shal_list se).1 (shal_p sd).1 hr ⟨.bl _, H, I, rfl, q⟩
theorem op_notInX (hu : X.A.units + 64 < cLine) : OpR X (compareOp .NotIn) (rInP X.K true) := by
  intro pins s σ H x y v u Q I rx ry h
  obtain ⟨d, es, hd, he, sd, se, q⟩ := h
  obtain ⟨as, r1⟩ := Dp.reads I d x v hd rx
  have hr : X.A.units + 1 + min (PyData.depthAll es) d.depth < cLine := by have := (shal_p sd).2; omega
  rcases he with he | he
  · obtain ⟨bs, r2⟩ := Dp.reads I _ y u he ry
    exact PySem.SeqAt.notIn_list_data r2 r1 (shal_list se).1 (shal_p sd).1 hr ⟨.bl _, H, I, rfl, q⟩
  · obtain ⟨bs, r2⟩ := Dp.reads I _ y u he ry
    exact PySem.SeqAt.notIn_tuple_data r2 r1 (shal_list se).1 (shal_p sd).1 hr ⟨.bl _, H, I, rfl, q⟩
theorem op_isX : OpR X (compareOp .Is) (rIsX false) := OpR.or op_isN op_isBl
theorem op_isNotX : OpR X (compareOp .IsNot) (rIsX true) := OpR.or op_notN op_notBl
end
section
variable {X : Cx} {W : WX} {k : Nat} {a b e : Expr} {fa fb : Ev} {pos : Pos}
theorem de_ix {j : Nat} (ha : DE τ X W a fa) (hb : DE τ X W b fb) (hs : PlainIx b := by exact fun _ _ => rfl) : DE τ X W (.Subscript a b pos) (eBin oIx fa fb) := ⟨PE.mono (pe_ix ix_seq ha.r hb.r hs) fun _ _ _ h => re2 ok_ix h⟩
end
def tyN : D → String
  | .none => "NoneType"
  | .bool _ => "bool"
  | .int _ => "int"
  | .str _ => "str"
  | .list _ => "list"
  | .tuple _ => "tuple"
  | .dict _ => "dict"
def isTy : Ty → D → Bool
  | .int, .int _ => true
  | .int, .bool _ => true
  | .bool, .bool _ => true
  | .str, .str _ => true
  | .tup, .tuple _ => true
  | .lst, .list _ => true
  | .dct, .dict _ => true
  | _, _ => false
theorem kit_isTy {K : PySem.W.Frag} (T : Ty) (d : D) : PySem.W.kitOne K (.type (tyN d)) (.type T.name) = some (isTy T d) := by
  cases T <;> cases d <;> (refine kit_ty ?_; dsimp only [tyN, Ty.name, isTy]; decide +kernel)
section
variable {K : PySem.W.Frag} {mg : Str → Option Value} {φ : Nat → Addr} {F : Addr → Prop} {H : Hp} {S : Store} {x y : V} {v u : Vl} {Q : VK} {W : XW} {n : Nat} {m : Bool}
theorem Ob.ty {d : D} (o : Ob K F H x d) : TyX K H x (.type (tyN d)) := by
  cases d with
  | none => cases o; exact .base .non
  | bool b => cases o; exact .base (.bl _)
  | int b => cases o; exact .base (.int _)
  | str b => cases o; exact .base (.str _)
  | list b => obtain ⟨a, xs, rfl, h, _⟩ := o; exact .base (.lst h)
  | tuple b =>
    obtain ⟨a, xs, rfl, h, _⟩ := o
    rcases h with ⟨_, h⟩ | ⟨o, its, n, h1, h2, h3, _⟩
    · exact .base (.tup h)
    · exact .kTuple h1 h2
  | dict b => obtain ⟨a, xs, rfl, h, _⟩ := o; exact .base (.dK h)
theorem reps1 {xs : List V} {v : Vl} (r : RepVs K mg φ F H n xs [v]) : ∃ x, xs = [x] ∧ RepV K mg φ F H n x v := by
  cases xs with
  | nil => exact r.elim
  | cons x xs =>
    cases xs with
    | nil => exact ⟨x, rfl, r.1⟩
    | cons y ys => exact r.2.elim
theorem reps2 {xs : List V} {v u : Vl} (r : RepVs K mg φ F H n xs [v, u]) : ∃ x y, xs = [x, y] ∧ RepV K mg φ F H n x v ∧ RepV K mg φ F H n y u := by
  cases xs with
  | nil => exact r.elim
  | cons x xs =>
    obtain ⟨y, e, h⟩ := reps1 r.2
    exact ⟨x, y, by rw [e], r.1, h⟩
end
def fIsi : Fn := fun vs S => match vs with
  | [v, .ty T] => match view S v with
    | some d => .ok (.d (.bool (isTy T d))) S
    | none => .bad
  | [v, .tys Ts] => match view S v with
    | some d => .ok (.d (.bool (Ts.any fun T => isTy T d))) S
    | none => .bad
  | _ => .bad
theorem kit_any {K : PySem.W.Frag} {d : D} : ∀ Ts : List Ty, PySem.W.kitAny K (.type (tyN d)) (Ts.map fun T => .type T.name) = some (Ts.any fun T => isTy T d)
  | [] => rfl
  | T :: Ts => by
    show PySem.W.kitAny K _ (Value.type T.name :: Ts.map fun T => .type T.name) = _
    unfold PySem.W.kitAny
    rw [kit_isTy, List.any_cons]
    cases e : isTy T d with
    | true => rfl
    | false => exact kit_any Ts
theorem ok_isi {K : PySem.W.Frag} {mg : Str → Option Value} : CallOk τ K mg (fun xs H Q => rIsi K xs H Q ∨ rIsiT K xs H Q) fIsi := by
  intro φ F H S xs vs Q W g r p
  unfold fIsi at p
  split at p
  · rename_i v T
    obtain ⟨x, y, rfl, r1, r2⟩ := reps2 r
    cases e : view S v with
    | none => rw [e] at p; exact p.elim
    | some d =>
      rw [e] at p
      have r2 : y = .ty T.name := r2
      subst r2
      exact .inl ⟨x, _, _, _, _, rfl, .ty _, (ob_of g r1 e).ty, kit_isTy T d, Post.ok g p (.bl _)⟩
  · rename_i v Ts
    obtain ⟨x, y, rfl, r1, r2⟩ := reps2 r
    cases e : view S v with
    | none => rw [e] at p; exact p.elim
    | some d =>
      rw [e] at p
      obtain ⟨a, rfl, h1, h2⟩ := r2
      refine .inr ⟨x, a, _, _, Ts.map fun T => .type T.name, _, rfl, h2, ?_, (ob_of g r1 e).ty, kit_any Ts, Post.ok g p (.bl _)⟩
      clear h2 p e r
      induction Ts with
      | nil => exact .nil
      | cons T Ts ih => exact .cons (.ty _) ih
  · exact p.elim
theorem call_isiX {X : Cx} : CallR X (.builtin "isinstance") (fun xs H Q => rIsi X.K xs H Q ∨ rIsiT X.K xs H Q) := call_isi.or call_isiT
def fLen : Fn := fun vs S => match vs with
  | [v] => match view S v with
    | some (.list xs) => .ok (.d (.int xs.length)) S
    | some (.tuple xs) => .ok (.d (.int xs.length)) S
    | some (.str z) => if z.length ≤ sizeLine then .ok (.d (.int z.length)) S else .bad
    | some (.dict es) => .ok (.d (.int es.length)) S
    | _ => .bad
  | _ => .bad
def fAbs : Fn := fun vs S => match vs with
  | [v] => match view S v with
    | some (.int i) => .ok (.d (.int (if i < 0 then -i else i))) S
    | _ => .bad
  | _ => .bad
def fInt : Fn := fun vs S => match vs with
  | [v] => match view S v with
    | some (.int i) => .ok (.d (.int i)) S
    | some (.bool k) => .ok (.d (.int (if k then 1 else 0))) S
    | _ => .bad
  | _ => .bad
def fMax2 : Fn := fun vs S => match vs with
  | [v, u] => match view S v, view S u with
    | some (.int i), some (.int j) => .ok (.d (.int (if j > i then j else i))) S
    | _, _ => .bad
  | _ => .bad
def fMin2 : Fn := fun vs S => match vs with
  | [v, u] => match view S v, view S u with
    | some (.int i), some (.int j) => .ok (.d (.int (if j < i then j else i))) S
    | _, _ => .bad
  | _ => .bad
section
variable {K : PySem.W.Frag} {mg : Str → Option Value}
theorem ok_abs : CallOk τ K mg (fun xs H Q => ∃ i, xs = [.int i] ∧ Q (.int (if i < 0 then -i else i)) H) fAbs := by
  intro φ F H S xs vs Q W g r p
  unfold fAbs at p
  split at p
  · rename_i v
    obtain ⟨x, rfl, r1⟩ := reps1 r
    cases e : view S v with
    | none => rw [e] at p; exact p.elim
    | some d =>
      rw [e] at p
      have o := ob_of g r1 e
      cases d <;> first | exact p.elim | skip
      exact ⟨_, by rw [show x = _ from o], Post.ok g p (.int _)⟩
  · exact p.elim
theorem ok_int : CallOk τ K mg (fun xs H Q => (∃ i, xs = [.int i] ∧ Q (.int i) H) ∨ ∃ k, xs = [.bl k] ∧ Q (.int (if k then 1 else 0)) H) fInt := by
  intro φ F H S xs vs Q W g r p
  unfold fInt at p
  split at p
  · rename_i v
    obtain ⟨x, rfl, r1⟩ := reps1 r
    cases e : view S v with
    | none => rw [e] at p; exact p.elim
    | some d =>
      rw [e] at p
      have o := ob_of g r1 e
      cases d <;> first | exact p.elim | skip
      · exact .inr ⟨_, by rw [show x = _ from o], Post.ok g p (.int _)⟩
      · exact .inl ⟨_, by rw [show x = _ from o], Post.ok g p (.int _)⟩
  · exact p.elim
theorem ok_max2 : CallOk τ K mg (fun xs H Q => ∃ i j, xs = [.int i, .int j] ∧ Q (.int (if j > i then j else i)) H) fMax2 := by
  intro φ F H S xs vs Q W g r p
  unfold fMax2 at p
  split at p
  · rename_i v u
    obtain ⟨x, y, rfl, r1, r2⟩ := reps2 r
    split at p
    · rename_i i j e1 e2
      exact ⟨i, j, by rw [show x = _ from ob_of g r1 e1, show y = _ from ob_of g r2 e2], Post.ok g p (.int _)⟩
    · exact p.elim
  · exact p.elim
theorem ok_min2 : CallOk τ K mg (fun xs H Q => ∃ i j, xs = [.int i, .int j] ∧ Q (.int (if j < i then j else i)) H) fMin2 := by
  intro φ F H S xs vs Q W g r p
  unfold fMin2 at p
  split at p
  · rename_i v u
    obtain ⟨x, y, rfl, r1, r2⟩ := reps2 r
    split at p
    · rename_i i j e1 e2
      exact ⟨i, j, by rw [show x = _ from ob_of g r1 e1, show y = _ from ob_of g r2 e2], Post.ok g p (.int _)⟩
    · exact p.elim
  · exact p.elim
def rLenX (K : PySem.W.Frag) : List V → Hp → VK → Prop := fun xs H Q => (∃ p ys, xs = [.ref p] ∧ (SqL K H p ys ∨ SqT K H p ys) ∧ Q (.int ys.length) H) ∨ (∃ z, xs = [.str z] ∧ z.length ≤ sizeLine ∧ Q (.int z.length) H) ∨ ∃ a kvs, xs = [V.ref a] ∧ H a = some (.dK kvs) ∧ Q (.int kvs.length) H
theorem ok_len : CallOk τ K mg (rLenX K) fLen := by
  intro φ F H S xs vs Q W g r p
  unfold fLen at p
  split at p
  · rename_i v
    obtain ⟨x, rfl, r1⟩ := reps1 r
    split at p
    · rename_i ds e
      obtain ⟨a, xs, rfl, h1, h2⟩ := ob_of g r1 e
      exact .inl ⟨a, xs, rfl, .inl (.inl (.inl h1)), by rw [h2.len]; exact Post.ok g p (.int _)⟩
    · rename_i ds e
      obtain ⟨a, xs, rfl, h1, h2⟩ := ob_of g r1 e
      exact .inl ⟨a, xs, rfl, .inr h1.sq, by rw [h2.len]; exact Post.ok g p (.int _)⟩
    · rename_i z e
      by_cases hl : z.length ≤ sizeLine
      · rw [if_pos hl] at p
        exact .inr (.inl ⟨z, by rw [show x = _ from ob_of g r1 e], hl, Post.ok g p (.int _)⟩)
      · rw [if_neg hl] at p; exact p.elim
    · rename_i ds e
      obtain ⟨a, xs, rfl, h1, h2⟩ := ob_of g r1 e
      exact .inr (.inr ⟨a, xs, rfl, h1, by rw [h2.len]; exact Post.ok g p (.int _)⟩)
    · exact p.elim
  · exact p.elim
theorem call_lenX {X : Cx} : CallR X (.builtin "len") (rLenX X.K) := call_len_seq.or (call_len_str.or call_lenD)
end
def seqOf : D → Option (List D)
  | .list xs => some xs
  | .tuple xs => some xs
  | _ => none
def rSeq (K : PySem.W.Frag) (c : List D → Prop) (k : List D → List V → Hp → VK → Prop) : List V → Hp → VK → Prop := fun vs H Q => ∃ a xs ds, vs = [.ref a] ∧ (SqL K H a xs ∨ SqT K H a xs) ∧ DpAll K H xs ds ∧ PyData.plainAll ds = true ∧ PyData.depthAll ds ≤ 60 ∧ c ds ∧ k ds xs H Q
def seqOk (ds : List D) : Bool := PyData.plainAll ds && decide (PyData.depthAll ds ≤ 60)
def fSeq (k : List D → Store → Res Vl) : Fn := fun vs S => match vs with
  | [v] => match view S v with
    | some d => match seqOf d with
      | some ds => if seqOk ds = true then k ds S else .bad
      | none => .bad
    | none => .bad
  | _ => .bad
theorem seqOk_p {ds : List D} (h : seqOk ds = true) : PyData.plainAll ds = true ∧ PyData.depthAll ds ≤ 60 := by simpa [seqOk] using h
theorem ok_seq {K : PySem.W.Frag} {mg : Str → Option Value} {c : List D → Prop} {k : List D → List V → Hp → VK → Prop} {o : List D → Store → Res Vl}
    (h : ∀ {φ : Nat → Addr} {F : Addr → Prop} {H : Hp} {S : Store} {xs : List V} {ds : List D} {Q : VK} {W : XW}, SG τ K φ F H S → FzAll K F H xs ds → Post τ K mg W S.length φ F H Q (o ds S) → c ds ∧ k ds xs H Q) : CallOk τ K mg (rSeq K c k) (fSeq o) := by
  intro φ F H S xs vs Q W g r p
  unfold fSeq at p
  split at p
  · rename_i v
    obtain ⟨x, rfl, r1⟩ := reps1 r
    cases e : view S v with
    | none => rw [e] at p; exact p.elim
    | some d =>
      simp only [e] at p
      have ob := ob_of g r1 e
      cases e2 : seqOf d with
      | none => simp only [e2] at p; exact p.elim
      | some ds =>
        simp only [e2] at p
        by_cases hl : seqOk ds = true
        · simp only [hl, if_true] at p
          have hp := seqOk_p hl
          cases d <;> first | (cases e2; skip) | cases e2
          · obtain ⟨a, ys, rfl, h1, h2⟩ := ob
            exact ⟨a, ys, ds, rfl, .inl (.inl (.inl h1)), h2.dp _ _ hp.1, hp.1, hp.2, h g h2 p⟩
          · obtain ⟨a, ys, rfl, h1, h2⟩ := ob
            exact ⟨a, ys, ds, rfl, .inr h1.sq, h2.dp _ _ hp.1, hp.1, hp.2, h g h2 p⟩
        · simp only [hl] at p; exact p.elim
  · exact p.elim
def alikeOk (ds : List D) : Bool := (ds.all fun x => ds.all fun y => PySem.W.alike x y) && ds.all fun x => !isNone x
theorem alikeOk_p {ds : List D} (h : alikeOk ds = true) : PySem.W.AlikeAll ds := by
  simp only [alikeOk, Bool.and_eq_true, List.all_eq_true, Bool.not_eq_true'] at h
  exact ⟨h.1, fun x hx e => by subst e; exact nomatch h.2 _ hx⟩
def fitsB : D → Bool
  | .str x => decide (x.length ≤ sizeLine)
  | .list xs => decide (xs.length ≤ sizeLine)
  | .tuple xs => decide (xs.length ≤ sizeLine)
  | _ => true
theorem fitsB_p {d : D} (h : fitsB d = true) : d.fits63 := by
  cases d with
  | str x =>
    have h' : x.length ≤ sizeLine := of_decide_eq_true h
    rw [sizeLine_eq] at h'
    simp only [PyData.fits63]
    omega
  | list x =>
    have h' : x.length ≤ sizeLine := of_decide_eq_true h
    rw [sizeLine_eq] at h'
    simp only [PyData.fits63]
    omega
  | tuple x =>
    have h' : x.length ≤ sizeLine := of_decide_eq_true h
    rw [sizeLine_eq] at h'
    simp only [PyData.fits63]
    omega
  | _ => trivial
def fAll : Fn := fSeq fun ds S => if ds.all fitsB = true then .ok (.d (.bool (ds.all PyData.truthy))) S else .bad
def fAny : Fn := fSeq fun ds S => if ds.all fitsB = true then .ok (.d (.bool (ds.any PyData.truthy))) S else .bad
def fMin1 : Fn := fSeq fun ds S => match ds with
  | [] => .bad
  | x :: xs => if alikeOk (x :: xs) = true then .ok (.d (PySem.W.minD x xs)) S else .bad
def fMax1 : Fn := fSeq fun ds S => match ds with
  | [] => .bad
  | x :: xs => if alikeOk (x :: xs) = true then .ok (.d (PySem.W.maxD x xs)) S else .bad
def intOf : D → Option Int
  | .int i => some i
  | _ => none
def intsOf : List D → Option (List Int)
  | [] => some []
  | .int i :: ds => (intsOf ds).map (i :: ·)
  | _ :: _ => none
def fSum : Fn := fSeq fun ds S => match intsOf ds with
  | some ns => .ok (.d (.int ns.sum)) S
  | none => .bad
def sortB (ds : List D) : Bool := alikeOk ds && ((ds.all fun d => match d with | .tuple (_ :: _) => true | _ => false) || ds.all fun d => match d with | .tuple _ => false | _ => true)
theorem sortB_p {ds : List D} (h : sortB ds = true) : PySem.W.AllAlike ds ∧ PySem.W.Sortable ds := by
  simp only [sortB, Bool.and_eq_true, Bool.or_eq_true, List.all_eq_true] at h
  obtain ⟨h1, h2⟩ := h
  have a := alikeOk_p h1
  refine ⟨fun d hd e he => a.1 d hd e he, h2.imp (fun h d hd => ?_) fun h d hd => ⟨a.2 d hd, fun xs e => ?_⟩⟩
  · have q := h d hd
    split at q
    · exact ⟨_, _, rfl⟩
    · cases q
  · have q := h d hd
    subst e
    cases q
def sortD (ds : List D) : List D := ds.mergeSort (PySem.W.dataLe false fun d => d)
def fSorted (m : Bool) : Fn := fSeq fun ds S => if (sortB ds && decide (ds.length ≤ sizeLine)) = true then mkL m (sortD ds) S else .bad
def fList (m : Bool) : Fn := fun vs S => match vs with
  | [v] => match view S v with
    | some (.list xs) => mkL m xs S
    | some (.tuple xs) => mkL m xs S
    | _ => .bad
  | _ => .bad
def fTuple : Fn := fun vs S => match vs with
  | [v] => match view S v with
    | some (.list xs) => .ok (.d (.tuple xs)) S
    | some (.tuple xs) => .ok (.d (.tuple xs)) S
    | _ => .bad
  | _ => .bad
section
variable {K : PySem.W.Frag} {mg : Str → Option Value} {F : Addr → Prop} {H : Hp}
theorem ok_allF : CallOk τ K mg (rSeq K (fun ds => ds.all fitsB = true) fun ds _ H Q => Q (.bl (ds.all PyData.truthy)) H) fAll := ok_seq fun {φ F H S xs ds Q W} g f p => by
  by_cases hl : ds.all fitsB = true
  · simp only [hl, if_true] at p
    exact ⟨hl, Post.ok g p (.bl _)⟩
  · simp only [hl] at p; exact p.elim
theorem ok_anyF : CallOk τ K mg (rSeq K (fun ds => ds.all fitsB = true) fun ds _ H Q => Q (.bl (ds.any PyData.truthy)) H) fAny := ok_seq fun {φ F H S xs ds Q W} g f p => by
  by_cases hl : ds.all fitsB = true
  · simp only [hl, if_true] at p
    exact ⟨hl, Post.ok g p (.bl _)⟩
  · simp only [hl] at p; exact p.elim
theorem ok_min1 : CallOk τ K mg (rSeq K (fun ds => ds ≠ [] ∧ alikeOk ds = true) fun ds xs H Q => ∀ (x : D) (r : List D), ds = x :: r → ∀ (i : Nat) (v : V), (xs : List V)[i]? = some v → ds[i]? = some (PySem.W.minD x r) → Q v H) fMin1 := ok_seq fun {φ F H S xs ds Q W} g f p => by
  cases ds with
  | nil => exact p.elim
  | cons x r =>
    by_cases hl : alikeOk (x :: r) = true
    · simp only [hl, if_true] at p
      refine ⟨⟨by simp, hl⟩, fun x' r' e i v h1 h2 => ?_⟩
      cases e
      obtain ⟨w, h3, h4⟩ := f.get h2
      rw [h1] at h3
      cases h3
      exact Post.ok g p h4
    · simp only [hl] at p; exact p.elim
theorem ok_max1 : CallOk τ K mg (rSeq K (fun ds => ds ≠ [] ∧ alikeOk ds = true) fun ds xs H Q => ∀ (x : D) (r : List D), ds = x :: r → ∀ (i : Nat) (v : V), (xs : List V)[i]? = some v → ds[i]? = some (PySem.W.maxD x r) → Q v H) fMax1 := ok_seq fun {φ F H S xs ds Q W} g f p => by
  cases ds with
  | nil => exact p.elim
  | cons x r =>
    by_cases hl : alikeOk (x :: r) = true
    · simp only [hl, if_true] at p
      refine ⟨⟨by simp, hl⟩, fun x' r' e i v h1 h2 => ?_⟩
      cases e
      obtain ⟨w, h3, h4⟩ := f.get h2
      rw [h1] at h3
      cases h3
      exact Post.ok g p h4
    · simp only [hl] at p; exact p.elim
theorem intsOf_fz : ∀ {ds : List D} {ns : List Int} {xs : List V}, intsOf ds = some ns → FzAll K F H xs ds → xs = ns.map V.int
  | [], ns, xs, e, h => by cases e; cases h; rfl
  | d :: ds, ns, xs, e, h => by
    cases d <;> first | cases e | skip
    rename_i i
    cases q : intsOf ds with
    | none => simp [intsOf, q] at e
    | some ms =>
      simp [intsOf, q] at e
      subst e
      cases h with
      | cons h1 h2 =>
        cases h1
        rw [intsOf_fz q h2]
        rfl
theorem ok_sumF : CallOk τ K mg (rSeq K (fun _ => True) fun ds xs H Q => ∃ ns : List Int, xs = ns.map V.int ∧ Q (.int ns.sum) H) fSum := ok_seq fun {φ F H S xs ds Q W} g f p => by
  cases e : intsOf ds with
  | none => simp only [e] at p; exact p.elim
  | some ns =>
    simp only [e] at p
    exact ⟨trivial, ns, intsOf_fz e f, Post.ok g p (.int _)⟩
theorem ok_list {m : Bool} : CallOk τ K mg (fun xs H Q => ∃ p ys, xs = [.ref p] ∧ (SqL K H p ys ∨ SqT K H p ys) ∧ ∀ l, H l = none → Q (.ref l) (upd H l (.lst ys))) (fList m) := by
  intro φ F H S xs vs Q W g r p
  unfold fList at p
  split at p
  · rename_i v
    obtain ⟨x, rfl, r1⟩ := reps1 r
    split at p
    · rename_i ds e
      obtain ⟨a, xs, rfl, h1, h2⟩ := ob_of g r1 e
      exact ⟨a, xs, rfl, .inl (.inl (.inl h1)), Post.newL g h2 p⟩
    · rename_i ds e
      obtain ⟨a, xs, rfl, h1, h2⟩ := ob_of g r1 e
      exact ⟨a, xs, rfl, .inr h1.sq, Post.newL g h2 p⟩
    · exact p.elim
  · exact p.elim
theorem ok_tuple : CallOk τ K mg (fun xs H Q => ∃ p ys, xs = [.ref p] ∧ ((SqL K H p ys ∧ ∀ l, H l = none → Q (.ref l) (upd H l (.tup ys))) ∨ (SqT K H p ys ∧ Q (.ref p) H))) fTuple := by
  intro φ F H S xs vs Q W g r p
  unfold fTuple at p
  split at p
  · rename_i v
    obtain ⟨x, rfl, r1⟩ := reps1 r
    split at p
    · rename_i ds e
      obtain ⟨a, xs, rfl, h1, h2⟩ := ob_of g r1 e
      exact ⟨a, xs, rfl, .inl ⟨.inl (.inl h1), Post.newT g h2 p⟩⟩
    · rename_i ds e
      obtain ⟨a, xs, rfl, h1, h2⟩ := ob_of g r1 e
      exact ⟨a, xs, rfl, .inr ⟨h1.sq, Post.ok g p (.tup h1 h2)⟩⟩
    · exact p.elim
  · exact p.elim
theorem ok_sorted {m : Bool} : CallOk τ K mg (rSeq K (fun ds => sortB ds = true ∧ ds.length ≤ sizeLine) fun ds xs H Q => ∀ ps : List (V × D), ps.Perm (xs.zip ds) → ps.map (·.2) = sortD ds → ∀ l, H l = none → Q (.ref l) (upd H l (.lst (ps.map (·.1))))) (fSorted m) := ok_seq fun {φ F H S xs ds Q W} g f p => by
  by_cases hl : (sortB ds && decide (ds.length ≤ sizeLine)) = true
  · simp only [hl, if_true] at p
    have h2 : sortB ds = true ∧ ds.length ≤ sizeLine := by simpa using hl
    refine ⟨h2, fun ps hp he l hl => ?_⟩
    have all : ∀ q ∈ ps, Fz K F H q.1 q.2 := fun q hq => by
      have hz := hp.mem_iff.mp hq
      obtain ⟨i, hi⟩ := List.mem_iff_getElem?.mp hz
      rw [List.getElem?_zip_eq_some] at hi
      obtain ⟨v, h3, h4⟩ := f.get hi.2
      rw [hi.1] at h3
      cases h3
      exact h4
    have fa : ∀ qs : List (V × D), (∀ q ∈ qs, Fz K F H q.1 q.2) → FzAll K F H (qs.map (·.1)) (qs.map (·.2)) := fun qs => by
      induction qs with
      | nil => intro _; exact .nil
      | cons q qs ih => intro h; exact .cons (h q List.mem_cons_self) (ih fun r hr => h r (List.mem_cons_of_mem _ hr))
    have fz := fa ps all
    rw [he] at fz
    exact Post.newL g fz p l hl
  · simp only [hl] at p; exact p.elim
end
section
variable {X : Cx}
theorem seq_reads {pins : List (Addr × Obj)} {σ : L2.St} {H : Hp} {s : Shared} {a : Addr} {xs : List V} {ds : List D} (I : Inv X pins σ H s) (hq : SqL X.K H a xs ∨ SqT X.K H a xs) (hd : DpAll X.K H xs ds) :
    ∃ (its : List Value) (as : List Addr), Vals xs its ∧ ReadsAll s.heap its ds as ∧ xs.length ≤ sizeLine ∧ ((SqL X.K H a xs ∧ s.heap.IsList a its.toArray) ∨ (SqT X.K H a xs ∧ s.heap.IsTuple a its.toArray)) := by
  rcases hq with hq | hq
  · obtain ⟨its, r, p, hz⟩ := I.list hq
    obtain ⟨as, h⟩ := Dp.readsAll I ds _ its hd r
    exact ⟨its, as, r, h, hz, .inl ⟨hq, p.isList⟩⟩
  · obtain ⟨its, r, p, hz⟩ := I.tuple hq
    obtain ⟨as, h⟩ := Dp.readsAll I ds _ its hd r
    exact ⟨its, as, r, h, hz, .inr ⟨hq, show s.heap.IsTuple a its.toArray from p⟩⟩
theorem all_fits {ds : List D} (h : ds.all fitsB = true) : ∀ x ∈ ds, x.fits63 := fun x hx => fitsB_p (List.all_eq_true.mp h x hx)
theorem call_allX (hc : X.calm = true) : CallR X (.builtin "all") (rSeq X.K (fun ds => ds.all fitsB = true) fun ds _ H Q => Q (.bl (ds.all PyData.truthy)) H) := by
  intro pins s σ H xs us Q I r h
  obtain ⟨a, ys, ds, rfl, hq, hd, hp, hdp, c, q⟩ := h
  obtain ⟨u, rfl, ru⟩ := vals1 r
  cases ru
  obtain ⟨its, as, rv, rd, _, h | h⟩ := seq_reads I hq hd
  · exact PySem.W.all_list_data (I.ok.hd hc) h.2 (by simpa using rd) hp (all_fits c) fun h' tk hk => ⟨.bl _, H, I.kept hk, rfl, q⟩
  · exact PySem.W.all_tuple_data (I.ok.hd hc) h.2 (by simpa using rd) hp (all_fits c) fun h' tk hk => ⟨.bl _, H, I.kept hk, rfl, q⟩
theorem call_anyX (hc : X.calm = true) : CallR X (.builtin "any") (rSeq X.K (fun ds => ds.all fitsB = true) fun ds _ H Q => Q (.bl (ds.any PyData.truthy)) H) := by
  intro pins s σ H xs us Q I r h
  obtain ⟨a, ys, ds, rfl, hq, hd, hp, hdp, c, q⟩ := h
  obtain ⟨u, rfl, ru⟩ := vals1 r
  cases ru
  obtain ⟨its, as, rv, rd, _, h | h⟩ := seq_reads I hq hd
  · exact PySem.W.any_list_data (I.ok.hd hc) h.2 (by simpa using rd) hp (all_fits c) fun h' tk hk => ⟨.bl _, H, I.kept hk, rfl, q⟩
  · exact PySem.W.any_tuple_data (I.ok.hd hc) h.2 (by simpa using rd) hp (all_fits c) fun h' tk hk => ⟨.bl _, H, I.kept hk, rfl, q⟩
theorem item_of {h h' : Heap} {its : List Value} {ys : List V} {ds : List D} {as bs : List Addr} {i : Nat} {v : Value} {d : D} (rv : Vals ys its) (rd : ReadsAll h its ds as) (hp : PyData.plainAll ds = true) (hi : its[i]? = some v) (k : ∀ b o, h.get? b = some o → h'.get? b = some o) (r : Reads h' v d bs) :
    ∃ y, ys[i]? = some y ∧ RelV y v ∧ ds[i]? = some d := by
  have hl : i < its.length := (List.getElem?_eq_some_iff.mp hi).1
  have hly : i < ys.length := by rw [rv.length]; exact hl
  obtain ⟨u, h1, h2⟩ := rv.get (List.getElem?_eq_getElem hly)
  rw [hi] at h1
  cases h1
  obtain ⟨cs, h3, h4, h5, _⟩ := PySem.W.readsAll_at rd i v hi
  refine ⟨ys[i], List.getElem?_eq_getElem hly, h2, ?_⟩
  have pl := PySem.W.plain_mem hp h5
  rw [← SeqAt.plain_unique _ d v cs bs pl (PySem.W.reads_keeps k h3) r, List.getD_eq_getElem?_getD, List.getElem?_eq_getElem h4]
  rfl
theorem call_min1X (hc : X.calm = true) (hu : X.A.units + 64 < cLine) : CallR X (.builtin "min") (rSeq X.K (fun ds => ds ≠ [] ∧ alikeOk ds = true) fun ds xs H Q => ∀ (x : D) (r : List D), ds = x :: r → ∀ (i : Nat) (v : V), (xs : List V)[i]? = some v → ds[i]? = some (PySem.W.minD x r) → Q v H) := by
  intro pins s σ H xs us Q I r h
  obtain ⟨a, ys, ds, rfl, hq, hd, hp, hdp, ⟨hne, hal⟩, q⟩ := h
  obtain ⟨u, rfl, ru⟩ := vals1 r
  cases ru
  cases ds with
  | nil => exact absurd rfl hne
  | cons x xs =>
    obtain ⟨its, as, rv, rd, _, h⟩ := seq_reads I hq hd
    have fin : ∀ (i : Nat) (v : Value) (h' : Heap) (tk : Nat) (bs : List Addr), its.toArray[i]? = some v → Reads h' v (PySem.W.minD x xs) bs → (∀ b o, s.heap.get? b = some o → h'.get? b = some o) → EP X pins σ Q v { s with heap := h', toks := tk } := fun i v h' tk bs hi hr hk => by
      obtain ⟨y, h1, h2, h3⟩ := item_of rv rd hp (by simpa using hi) hk hr
      exact ⟨y, H, I.kept hk, h2, q x xs rfl i y h1 h3⟩
    rcases h with h | h
    · exact PySem.W.min_list_data (I.ok.hd hc) h.2 (by simpa using rd) (alikeOk_p hal) (by omega) fin
    · exact PySem.W.min_tuple_data (I.ok.hd hc) h.2 (by simpa using rd) (alikeOk_p hal) (by omega) fin
theorem call_max1X (hc : X.calm = true) (hu : X.A.units + 64 < cLine) : CallR X (.builtin "max") (rSeq X.K (fun ds => ds ≠ [] ∧ alikeOk ds = true) fun ds xs H Q => ∀ (x : D) (r : List D), ds = x :: r → ∀ (i : Nat) (v : V), (xs : List V)[i]? = some v → ds[i]? = some (PySem.W.maxD x r) → Q v H) := by
  intro pins s σ H xs us Q I r h
  obtain ⟨a, ys, ds, rfl, hq, hd, hp, hdp, ⟨hne, hal⟩, q⟩ := h
  obtain ⟨u, rfl, ru⟩ := vals1 r
  cases ru
  cases ds with
  | nil => exact absurd rfl hne
  | cons x xs =>
    obtain ⟨its, as, rv, rd, _, h⟩ := seq_reads I hq hd
    have fin : ∀ (i : Nat) (v : Value) (h' : Heap) (tk : Nat) (bs : List Addr), its.toArray[i]? = some v → Reads h' v (PySem.W.maxD x xs) bs → (∀ b o, s.heap.get? b = some o → h'.get? b = some o) → EP X pins σ Q v { s with heap := h', toks := tk } := fun i v h' tk bs hi hr hk => by
      obtain ⟨y, h1, h2, h3⟩ := item_of rv rd hp (by simpa using hi) hk hr
      exact ⟨y, H, I.kept hk, h2, q x xs rfl i y h1 h3⟩
    rcases h with h | h
    · exact PySem.W.max_list_data (I.ok.hd hc) h.2 (by simpa using rd) (alikeOk_p hal) (by omega) fin
    · exact PySem.W.max_tuple_data (I.ok.hd hc) h.2 (by simpa using rd) (alikeOk_p hal) (by omega) fin
end
def Res.st {α : Type} (r : Res α) (ρ : Env) (k : α → Store → SRes) : SRes := match r with
  | .ok a S => k a S
  | .ex e S => .ex e ρ S
  | .bad => .bad
@[simp] theorem st_ok {α : Type} (a : α) (S : Store) (ρ : Env) (k : α → Store → SRes) : (Res.ok a S).st ρ k = k a S := rfl
@[simp] theorem st_ex {α : Type} (e : Xn) (S : Store) (ρ : Env) (k : α → Store → SRes) : (Res.ex e S : Res α).st ρ k = .ex e ρ S := rfl
@[simp] theorem st_bad {α : Type} (ρ : Env) (k : α → Store → SRes) : (Res.bad : Res α).st ρ k = .bad := rfl
def SRes.seq (r : SRes) (k : Sv) : SRes := match r with
  | .nx ρ S => k ρ S
  | r => r
@[simp] theorem seq_nx (ρ : Env) (S : Store) (k : Sv) : (SRes.nx ρ S).seq k = k ρ S := rfl
@[simp] theorem seq_ret (v : Vl) (S : Store) (k : Sv) : (SRes.ret v S).seq k = .ret v S := rfl
@[simp] theorem seq_bk (ρ : Env) (S : Store) (k : Sv) : (SRes.bk ρ S).seq k = .bk ρ S := rfl
@[simp] theorem seq_ct (ρ : Env) (S : Store) (k : Sv) : (SRes.ct ρ S).seq k = .ct ρ S := rfl
@[simp] theorem seq_ex (e : Xn) (ρ : Env) (S : Store) (k : Sv) : (SRes.ex e ρ S).seq k = .ex e ρ S := rfl
@[simp] theorem seq_bad (k : Sv) : SRes.bad.seq k = .bad := rfl
abbrev Tg := Vl → Env → Option Env
def gN (i : Nat) : Tg := fun v ρ => some (ρ.set i (some v))
def gAll : List Tg → List Vl → Env → Option Env
  | [], [], ρ => some ρ
  | g :: gs, v :: vs, ρ => match g v ρ with
    | some ρ1 => gAll gs vs ρ1
    | none => none
  | _, _, _ => none
def gT (gs : List Tg) : Tg := fun v ρ => match v with
  | .d (.tuple ds) => gAll gs (ds.map Vl.d) ρ
  | _ => none
def sNil : Sv := fun ρ S => .nx ρ S
def sCons (a b : Sv) : Sv := fun ρ S => (a ρ S).seq b
def sExpr (f : Ev) : Sv := fun ρ S => (f ρ S).st ρ fun _ S1 => .nx ρ S1
def sAsg (g : Tg) (f : Ev) : Sv := fun ρ S => (f ρ S).st ρ fun v S1 => match g v ρ with
  | some ρ1 => .nx ρ1 S1
  | none => .bad
def sSet (i : Nat) (f : Ev) : Sv := fun ρ S => (f ρ S).st ρ fun v S1 => .nx (ρ.set i (some v)) S1
def sPar (gs : List Tg) (f : Av) : Sv := fun ρ S => (f ρ S).st ρ fun vs S1 => match gAll gs vs ρ with
  | some ρ1 => .nx ρ1 S1
  | none => .bad
def sRet (f : Ev) : Sv := fun ρ S => (f ρ S).st ρ fun v S1 => .ret v S1
def sRetN : Sv := fun _ S => .ret (.d .none) S
def sIf (c : Tv) (a b : Sv) : Sv := fun ρ S => (c ρ S).st ρ fun x S1 => if x = true then a ρ S1 else b ρ S1
def sAug (i : Nat) (o : Vl → Vl → Store → Res Vl) (f : Ev) : Sv := fun ρ S => match ρ[i]? with
  | some (some x) => (f ρ S).st ρ fun y S1 => (o x y S1).st ρ fun z S2 => .nx (ρ.set i (some z)) S2
  | _ => .bad
def sPut (fo fi fe : Ev) : Sv := fun ρ S => (fe ρ S).st ρ fun v S1 => (fr v S1).st ρ fun d S2 => (fo ρ S2).st ρ fun o S3 => (fi ρ S3).st ρ fun i S4 => match o, view S4 i with
  | .loc n, some (.int k) => match S4[n]? with
    | some (.lst xs) => match ixN xs.length k with
      | some j => .nx ρ (S4.set n (.lst (xs.set j d)))
      | none => .bad
    | _ => .bad
  | _, _ => .bad
def sBreak : Sv := fun ρ S => .bk ρ S
def sCont : Sv := fun ρ S => .ct ρ S
abbrev Iv := Env → Store → Res (List D)
def forL (g : Tg) (b : Sv) : List D → Env → Store → SRes
  | [], ρ, S => .nx ρ S
  | x :: xs, ρ, S => match g (.d x) ρ with
    | none => .bad
    | some ρ1 => match b ρ1 S with
      | .nx ρ2 S2 => forL g b xs ρ2 S2
      | .ct ρ2 S2 => forL g b xs ρ2 S2
      | .bk ρ2 S2 => .nx ρ2 S2
      | r => r
def sFor (it : Iv) (g : Tg) (b : Sv) : Sv := fun ρ S => (it ρ S).st ρ fun xs S1 => forL g b xs ρ S1
def whN (c : Tv) (b : Sv) : Nat → Env → Store → Option SRes
  | 0, _, _ => none
  | n + 1, ρ, S => match c ρ S with
    | .ok true S1 => match b ρ S1 with
      | .nx ρ2 S2 => whN c b n ρ2 S2
      | .ct ρ2 S2 => whN c b n ρ2 S2
      | .bk ρ2 S2 => some (.nx ρ2 S2)
      | r => some r
    | .ok false S1 => some (.nx ρ S1)
    | .ex e S1 => some (.ex e ρ S1)
    | .bad => some .bad
open Classical in
noncomputable def sWhile (c : Tv) (b : Sv) : Sv := fun ρ S => if h : ∃ n r, whN c b n ρ S = some r then Classical.choose (Classical.choose_spec h) else .bad
theorem whN_mono {c : Tv} {b : Sv} : ∀ {n m : Nat} {ρ : Env} {S : Store} {r : SRes}, whN c b n ρ S = some r → n ≤ m → whN c b m ρ S = some r
  | 0, _, _, _, _, h, _ => by simp [whN] at h
  | n + 1, 0, _, _, _, _, h => by omega
  | n + 1, m + 1, ρ, S, r, h, hm => by
    have hm : n ≤ m := by omega
    unfold whN at h ⊢
    cases e : c ρ S with
    | ok t S1 =>
      simp only [e] at h ⊢
      cases t with
      | false => exact h
      | true =>
        cases e2 : b ρ S1 with
        | nx ρ2 S2 => simp only [e2] at h ⊢; exact whN_mono h hm
        | ct ρ2 S2 => simp only [e2] at h ⊢; exact whN_mono h hm
        | bk ρ2 S2 => simp only [e2] at h ⊢; exact h
        | ret v S2 => simp only [e2] at h ⊢; exact h
        | ex v ρ2 S2 => simp only [e2] at h ⊢; exact h
        | bad => simp only [e2] at h ⊢; exact h
    | ex x S1 => simp only [e] at h ⊢; exact h
    | bad => simp only [e] at h ⊢; exact h
theorem sWhile_of {c : Tv} {b : Sv} {n : Nat} {ρ : Env} {S : Store} {r : SRes} (h : whN c b n ρ S = some r) : sWhile c b ρ S = r := by
  have ex : ∃ n r, whN c b n ρ S = some r := ⟨n, r, h⟩
  unfold sWhile
  rw [dif_pos ex]
  have q := Classical.choose_spec (Classical.choose_spec ex)
  have a := whN_mono q (Nat.le_max_left (Classical.choose ex) n)
  have b := whN_mono h (Nat.le_max_right (Classical.choose ex) n)
  rw [a] at b
  exact Option.some.inj b
theorem sWhile_ex {c : Tv} {b : Sv} {ρ : Env} {S : Store} (h : sWhile c b ρ S ≠ .bad) : ∃ n, whN c b n ρ S = some (sWhile c b ρ S) := by
  by_cases ex : ∃ n r, whN c b n ρ S = some r
  · obtain ⟨n, r, e⟩ := ex
    exact ⟨n, by rw [sWhile_of e]; exact e⟩
  · exact absurd (by unfold sWhile; rw [dif_neg ex]) h
theorem sWhile_eq (c : Tv) (b : Sv) (ρ : Env) (S : Store) : sWhile c b ρ S = match c ρ S with
    | .ok true S1 => match b ρ S1 with
      | .nx ρ2 S2 => sWhile c b ρ2 S2
      | .ct ρ2 S2 => sWhile c b ρ2 S2
      | .bk ρ2 S2 => .nx ρ2 S2
      | r => r
    | .ok false S1 => .nx ρ S1
    | .ex e S1 => .ex e ρ S1
    | .bad => .bad := by
  cases e : c ρ S with
  | ok t S1 =>
    cases t with
    | false => exact sWhile_of (n := 1) (by simp [whN, e])
    | true =>
      cases e2 : b ρ S1 with
      | nx ρ2 S2 =>
        simp only [e2]
        by_cases ex : ∃ n r, whN c b n ρ2 S2 = some r
        · obtain ⟨n, r, h⟩ := ex
          rw [sWhile_of h]
          exact sWhile_of (n := n + 1) (by simp only [whN, e, e2]; exact h)
        · have n1 : sWhile c b ρ2 S2 = .bad := by unfold sWhile; rw [dif_neg ex]
          rw [n1]
          have : ¬ ∃ n r, whN c b n ρ S = some r := fun ⟨n, r, h⟩ => by
            cases n with
            | zero => simp [whN] at h
            | succ n => simp only [whN, e, e2] at h; exact ex ⟨n, r, h⟩
          unfold sWhile
          rw [dif_neg this]
      | ct ρ2 S2 =>
        simp only [e2]
        by_cases ex : ∃ n r, whN c b n ρ2 S2 = some r
        · obtain ⟨n, r, h⟩ := ex
          rw [sWhile_of h]
          exact sWhile_of (n := n + 1) (by simp only [whN, e, e2]; exact h)
        · have n1 : sWhile c b ρ2 S2 = .bad := by unfold sWhile; rw [dif_neg ex]
          rw [n1]
          have : ¬ ∃ n r, whN c b n ρ S = some r := fun ⟨n, r, h⟩ => by
            cases n with
            | zero => simp [whN] at h
            | succ n => simp only [whN, e, e2] at h; exact ex ⟨n, r, h⟩
          unfold sWhile
          rw [dif_neg this]
      | bk ρ2 S2 => exact sWhile_of (n := 1) (by simp [whN, e, e2])
      | ret v S2 => exact sWhile_of (n := 1) (by simp [whN, e, e2])
      | ex v ρ2 S2 => exact sWhile_of (n := 1) (by simp [whN, e, e2])
      | bad => exact sWhile_of (n := 1) (by simp [whN, e, e2])
  | ex x S1 => exact sWhile_of (n := 1) (by simp [whN, e])
  | bad => exact sWhile_of (n := 1) (by simp [whN, e])
def leave (n : Nat) (v : Vl) (S : Store) : Res Vl := match v with
  | .loc i => if i < n then .ok (.loc i) (S.take n) else match S[i]? with
    | some o => .ok (.loc n) (S.take n ++ [o])
    | none => .bad
  | .lam _ => .bad
  | v => .ok v (S.take n)
def fnOf (slots : Nat) (b : Sv) : Fn := fun vs S => match b (vs.map some ++ List.replicate (slots - vs.length) none) S with
  | .ret v S1 => leave S.length v S1
  | .nx _ S1 => .ok (.d .none) (S1.take S.length)
  | .ex e _ S1 => .ex e (S1.take S.length)
  | _ => .bad
section
variable {K : PySem.W.Frag} {mg : Str → Option Value} {φ φ' φ1 φ2 : Nat → Addr} {F F' F1 F2 : Addr → Prop} {H H' H1 H2 : Hp} {n n' m : Nat} {S S' S1 : Store}
theorem PostS.st {α β : Type} {R : (Nat → Addr) → (Addr → Prop) → Hp → Nat → β → α → Prop} {W : WX} {E : Ends} {r : Res α} {ρ : Env} {σ : L2.St} {k : α → Store → SRes} {Q : β → Hp → Prop} (g : SG τ K φ F H S) (sl : Slots K mg φ F H S.length σ ρ) (p : PostS τ K mg W S.length φ F H E (r.st ρ k))
    (h : ∀ φ1 F1 H1 S1 v x, Now τ K S.length φ F H φ1 F1 H1 S1 → R φ1 F1 H1 S1.length x v → PostS τ K mg W S1.length φ1 F1 H1 E (k v S1) → Q x H1) : PostG τ K mg R (fun c od H' => W c od σ H') S.length φ F H Q r := by
  cases r with
  | ok v S' => exact fun φ' F' H' nw x rx => h _ _ _ _ _ _ nw rx (PostS.start g nw p)
  | ex x S' => exact fun φ' F' H' nw c od rx => p φ' F' H' nw c od rx σ (sl.now nw)
  | bad => exact p
theorem PostS.seq {W : WX} {E : Ends} {r : SRes} {k : Sv} (g : SG τ K φ F H S) (p : PostS τ K mg W S.length φ F H E (r.seq k)) : PostS τ K mg W S.length φ F H { E with nx := RS τ K mg W k E } r := by
  cases r with
  | nx ρ S' => exact fun φ' F' H' nw σ' sl => ⟨φ', F', ρ, S', nw.sg, sl, PostS.start g nw p⟩
  | ret v S' => exact p
  | bk ρ S' => exact p
  | ct ρ S' => exact p
  | ex e ρ S' => exact p
  | bad => exact p
theorem PostS.nx {W : WX} {E : Ends} {ρ : Env} {σ : L2.St} (g : SG τ K φ F H S) (sl : Slots K mg φ F H S.length σ ρ) (p : PostS τ K mg W S.length φ F H E (.nx ρ S)) : E.nx σ H := p φ F H (.refl g) σ sl
theorem PostS.ends {W : WX} {E E' : Ends} {r : SRes} (p : PostS τ K mg W n φ F H E r) (h1 : ∀ σ H, E.nx σ H → E'.nx σ H) (h2 : ∀ v H, E.rt v H → E'.rt v H) (h3 : ∀ σ H, E.bk σ H → E'.bk σ H) (h4 : ∀ σ H, E.ct σ H → E'.ct σ H) : PostS τ K mg W n φ F H E' r := by
  cases r with
  | nx ρ S' => exact fun φ' F' H' nw σ' sl => h1 _ _ (p φ' F' H' nw σ' sl)
  | ret v S' => exact fun φ' F' H' nw σ' sl => h2 _ _ (p φ' F' H' nw σ' sl)
  | bk ρ S' => exact fun φ' F' H' nw σ' sl => h3 _ _ (p φ' F' H' nw σ' sl)
  | ct ρ S' => exact fun φ' F' H' nw σ' sl => h4 _ _ (p φ' F' H' nw σ' sl)
  | ex e ρ S' => exact p
  | bad => exact p
end
def Kept (ws : List Nat) (σ σ1 : L2.St) : Prop := σ1.length = σ.length ∧ ∀ i, i ∉ ws → σ1[i]? = σ[i]?
def RG (τ : Tb) (K : PySem.W.Frag) (mg : Str → Option Value) (g : Tg) (ws : List Nat) : TG := fun v σ H Q => ∃ φ F ρ S x, SG τ K φ F H S ∧ Slots K mg φ F H S.length σ ρ ∧ RepV K mg φ F H S.length v x ∧ match g x ρ with
  | some ρ1 => ∀ σ1 : L2.St, Slots K mg φ F H S.length σ1 ρ1 → Kept ws σ σ1 → Q σ1 H
  | none => False
def RGs (τ : Tb) (K : PySem.W.Frag) (mg : Str → Option Value) (gs : List Tg) (ws : List Nat) : TGs := fun vs σ H Q => ∃ φ F ρ S xs, SG τ K φ F H S ∧ Slots K mg φ F H S.length σ ρ ∧ RepVs K mg φ F H S.length vs xs ∧ match gAll gs xs ρ with
  | some ρ1 => ∀ σ1 : L2.St, Slots K mg φ F H S.length σ1 ρ1 → Kept ws σ σ1 → Q σ1 H
  | none => False
structure DG (τ : Tb) (X : Cx) (tg : Expr) (g : Tg) (ws : List Nat) : Prop where
  r : PG X tg (RG τ X.K X.mg g ws)
structure DGs (τ : Tb) (X : Cx) (tgs : List Expr) (gs : List Tg) (ws : List Nat) : Prop where
  r : PGs X tgs (RGs τ X.K X.mg gs ws)
theorem PG.mono {X : Cx} {e : Expr} {t t' : TG} (h : PG X e t) (m : ∀ v σ H Q, t' v σ H Q → t v σ H Q) : PG X e t' := ⟨fun pins s σ H v u Q I r q => h.run pins s σ H v u Q I r (m _ _ _ _ q)⟩
theorem PGs.mono {X : Cx} {e : List Expr} {t t' : TGs} (h : PGs X e t) (m : ∀ v σ H Q, t' v σ H Q → t v σ H Q) : PGs X e t' := ⟨fun pins s σ H v u Q I r q => h.run pins s σ H v u Q I r (m _ _ _ _ q)⟩
section
variable {X : Cx} {W : WX} {k : Nat} {a b c e tg : Expr} {es rest tgs : List Expr} {fa fb fc f : Ev} {ga gb : Tv} {fs : Av} {pos pos' : Pos} {st : Stmt} {sts body els : List Stmt} {sf sg : Sv} {g : Tg} {gs : List Tg} {ws vs' : List Nat}
theorem dg_name (i : Nat) {x : Str} (hN : X.N.Nodup) (hi : X.N[i]? = some x) (hx : Loc X.env.scope x) (hf : X.fn x = true ∨ X.env.scope.names.lookup x = some .local := by first | exact .inl rfl | exact .inr rfl | assumption) : DG τ X (.Name x pos) (gN i) [i] :=
  ⟨PG.mono (pg_name hN hi hx hf) fun v σ H Q ⟨φ, F, ρ, S, y, g, sl, r, p⟩ => p _ (sl.set r) ⟨List.length_set, fun j hj => List.getElem?_set_ne fun e => hj (by simp [e])⟩⟩
theorem dgs_nil : DGs τ X [] [] [] := ⟨PGs.mono pgs_nil fun vs σ H Q ⟨φ, F, ρ, S, ys, g, sl, r, p⟩ => by
  cases ys with
  | cons y ys => exact p.elim
  | nil =>
    cases vs with
    | cons v vs => exact r.elim
    | nil => exact ⟨rfl, p _ sl ⟨rfl, fun _ _ => rfl⟩⟩⟩
theorem dgs_cons (h1 : DG τ X tg g ws) (h2 : DGs τ X tgs gs vs') (hs : (assignEach (tg :: tgs) X.env).map (·.2) = assign tg X.env :: (assignEach tgs X.env).map (·.2) := by rfl) : DGs τ X (tg :: tgs) (g :: gs) (ws ++ vs') := ⟨PGs.mono (pgs_cons h1.r h2.r hs) fun vs σ H Q ⟨φ, F, ρ, S, ys, sg, sl, r, p⟩ => by
  cases ys with
  | nil => exact p.elim
  | cons y ys =>
    cases vs with
    | nil => exact r.elim
    | cons v vs =>
      refine ⟨v, vs, rfl, φ, F, ρ, S, y, sg, sl, r.1, ?_⟩
      unfold gAll at p
      cases q : g y ρ with
      | none => rw [q] at p; exact p.elim
      | some ρ1 =>
        simp only [q] at p
        refine fun σ1 sl1 n1 => ⟨φ, F, ρ1, S, ys, sg, sl1, r.2, ?_⟩
        cases q2 : gAll gs ys ρ1 with
        | none => rw [q2] at p; exact p.elim
        | some ρ2 =>
          simp only [q2] at p ⊢
          exact fun σ2 sl2 n2 => p σ2 sl2 ⟨n2.1.trans n1.1, fun i hi => (n2.2 i fun h => hi (List.mem_append_right _ h)).trans (n1.2 i fun h => hi (List.mem_append_left _ h))⟩⟩
theorem reps_d {K : PySem.W.Frag} {mg : Str → Option Value} {φ : Nat → Addr} {F : Addr → Prop} {H : Hp} {n : Nat} : ∀ {xs : List V} {ds : List D}, FzAll K F H xs ds → RepVs K mg φ F H n xs (ds.map Vl.d)
  | _, _, .nil => trivial
  | _, _, .cons h t => ⟨h, reps_d t⟩
theorem dg_tup {kk : Nat} {n : Nat} (hc : X.calm = true) (h : DGs τ X tgs gs ws) (hn : (assignEach tgs X.env).length = n := by rfl) (hst : (assignEach tgs X.env).findIdx? (·.1) = none := by rfl) (hl : gs.length = n := by rfl) : DG τ X (.Tuple tgs kk pos) (gT gs) ws := ⟨PG.mono (pg_tup hc h.r hn hst) fun v σ H Q ⟨φ, F, ρ, S, y, sg, sl, r, p⟩ => by
  cases y with
  | d y =>
    cases y with
    | tuple ds =>
      · obtain ⟨a, xs, rfl, h1, h2⟩ := Fz.ob r
        refine ⟨a, xs, rfl, h1.sq, ?_, φ, F, ρ, S, _, sg, sl, reps_d h2, p⟩
        have q : ∀ (gs : List Tg) (vs : List Vl) (ρ : Env), (∃ ρ1, gAll gs vs ρ = some ρ1) → vs.length = gs.length := fun gs => by
          induction gs with
          | nil => intro vs ρ h; cases vs with
            | nil => rfl
            | cons v vs => obtain ⟨_, e⟩ := h; cases e
          | cons g gs ih => intro vs ρ h; cases vs with
            | nil => obtain ⟨_, e⟩ := h; cases e
            | cons v vs =>
              obtain ⟨ρ1, e⟩ := h
              unfold gAll at e
              cases q : g v ρ with
              | none => rw [q] at e; cases e
              | some ρ2 => simp only [q] at e; rw [List.length_cons, List.length_cons, ih vs ρ2 ⟨ρ1, e⟩]
        cases q2 : gAll gs (ds.map Vl.d) ρ with
        | none => simp only [gT, q2] at p
        | some ρ1 =>
          have := q gs _ ρ ⟨ρ1, q2⟩
          rw [List.length_map] at this
          rw [h2.len, this, hl]
    | _ => exact p.elim
  | _ => exact p.elim⟩
theorem db_nil : DB τ X W [] sNil := ⟨PSs.mono pss_nil fun E σ H ⟨φ, F, ρ, S, g, sl, p⟩ => PostS.nx g sl p⟩
theorem db_cons (h1 : DS τ X W st sf) (h2 : DB τ X W sts sg) : DB τ X W (st :: sts) (sCons sf sg) := ⟨PSs.mono (pss_cons h1.r h2.r) fun E σ H ⟨φ, F, ρ, S, g, sl, p⟩ => ⟨φ, F, ρ, S, g, sl, PostS.seq g p⟩⟩
theorem db_one (h1 : DS τ X W st sf) : DB τ X W [st] sf := ⟨PSs.mono (pss_one h1.r) fun _ _ _ q => q⟩
theorem ds_pass : DS τ X W (.Pass pos) sNil := ⟨PS.mono ps_pass fun E σ H ⟨φ, F, ρ, S, g, sl, p⟩ => PostS.nx g sl p⟩
theorem ds_break : DS τ X W (.Break pos) sBreak := ⟨PS.mono ps_break fun E σ H ⟨φ, F, ρ, S, g, sl, p⟩ => p φ F H (.refl g) σ sl⟩
theorem ds_cont : DS τ X W (.Continue pos) sCont := ⟨PS.mono ps_continue fun E σ H ⟨φ, F, ρ, S, g, sl, p⟩ => p φ F H (.refl g) σ sl⟩
theorem ds_expr (h : DE τ X W e f) (hs : swapsWith e none pos.line X.env = pure false := by rfl) : DS τ X W (.Expr e pos) (sExpr f) := ⟨PS.mono (ps_expr h.r hs) fun E σ H ⟨φ, F, ρ, S, g, sl, p⟩ => ⟨φ, F, ρ, S, g, sl, PostS.st g sl p fun φ1 F1 H1 S1 v x nw1 r1 p1 => PostS.nx nw1.sg (sl.now nw1) p1⟩⟩
theorem ds_ret (h : DE τ X W e f) : DS τ X W (.Return (some e) pos) (sRet f) := ⟨PS.mono (ps_ret h.r) fun E σ H ⟨φ, F, ρ, S, g, sl, p⟩ => ⟨φ, F, ρ, S, g, sl, PostS.st g sl p fun φ1 F1 H1 S1 v x nw1 r1 p1 => p1 _ _ _ (.refl nw1.sg) x r1⟩⟩
theorem ds_retN : DS τ X W (.Return none pos) sRetN := ⟨PS.mono ps_retN fun E σ H ⟨φ, F, ρ, S, g, sl, p⟩ => p _ _ _ (.refl g) .non .non⟩
theorem ds_set (i : Nat) {x : Str} (hN : X.N.Nodup) (hi : X.N[i]? = some x) (hx : Loc X.env.scope x) (h : DE τ X W e f) (hs : swapsWith e (some (.Name x pos')) pos.line X.env = pure false := by rfl) (hf : X.fn x = true ∨ X.env.scope.names.lookup x = some .local := by first | exact .inl rfl | exact .inr rfl | assumption) : DS τ X W (.Assign [.Name x pos'] e pos) (sSet i f) :=
  ⟨PS.mono (ps_set hN hi hx h.r hs hf) fun E σ H ⟨φ, F, ρ, S, g, sl, p⟩ => ⟨φ, F, ρ, S, g, sl, PostS.st g sl p fun φ1 F1 H1 S1 v x nw1 r1 p1 => PostS.nx nw1.sg ((sl.now nw1).set r1) p1⟩⟩
theorem ds_asg (h : DE τ X W e f) (hg : DG τ X tg g ws) (hs : swapsWithSole [tg] e pos.line X.env = pure false := by rfl) (hw : swappedStores [tg] e X.env = pure none := by rfl) (h1 : (assignEach [tg] X.env).map (·.2) = [assign tg X.env] := by rfl) : DS τ X W (.Assign [tg] e pos) (sAsg g f) :=
  ⟨PS.mono (ps_asg h.r hg.r hs hw h1) fun E σ H ⟨φ, F, ρ, S, gg, sl, p⟩ => ⟨φ, F, ρ, S, gg, sl, PostS.st gg sl p fun φ1 F1 H1 S1 v x nw1 r1 p1 => ⟨φ1, F1, ρ, S1, v, nw1.sg, sl.now nw1, r1, by
    cases q : g v ρ with
    | none => rw [q] at p1; exact p1.elim
    | some ρ1 =>
      simp only [q] at p1 ⊢
      exact fun σ1 sl1 _ => PostS.nx nw1.sg sl1 p1⟩⟩⟩
theorem ds_parT {n kk k2 : Nat} {pos2 : Pos} (hc : X.calm = true) (h : DA τ X W es fs) (hg : DGs τ X tgs gs ws) (hn : (assignEach tgs X.env).length = n := by rfl) (hst : (assignEach tgs X.env).findIdx? (·.1) = none := by rfl) (hl : gs.length = n := by rfl) (hln : n ≤ 1000 := by decide)
    (hs : swapsWithSole [.Tuple tgs kk pos'] (.Tuple es k2 pos2) pos.line X.env = pure false := by rfl) (hw : swappedStores [.Tuple tgs kk pos'] (.Tuple es k2 pos2) X.env = pure none := by rfl) (h1 : (assignEach [.Tuple tgs kk pos'] X.env).map (·.2) = [assign (.Tuple tgs kk pos') X.env] := by rfl) :
    DS τ X W (.Assign [.Tuple tgs kk pos'] (.Tuple es k2 pos2) pos) (sPar gs fs) := ⟨PS.mono (ps_asg (pe_tup h.r) (pg_tup hc hg.r hn hst) hs hw h1) fun E σ H ⟨φ, F, ρ, S, g, sl, p⟩ => ⟨φ, F, ρ, S, g, sl, PostS.st g sl p fun φ1 F1 H1 S1 vs xs nw1 r1 p1 => by
  have q : ∀ (gs : List Tg) (vs : List Vl) (ρ : Env), (∃ ρ1, gAll gs vs ρ = some ρ1) → vs.length = gs.length := fun gs => by
    induction gs with
    | nil => intro vs ρ h; cases vs with
      | nil => rfl
      | cons v vs => obtain ⟨_, e⟩ := h; cases e
    | cons g gs ih => intro vs ρ h; cases vs with
      | nil => obtain ⟨_, e⟩ := h; cases e
      | cons v vs =>
        obtain ⟨ρ1, e⟩ := h
        unfold gAll at e
        cases q : g v ρ with
        | none => rw [q] at e; cases e
        | some ρ2 => simp only [q] at e; rw [List.length_cons, List.length_cons, ih vs ρ2 ⟨ρ1, e⟩]
  cases q2 : gAll gs vs ρ with
  | none => rw [q2] at p1; exact p1.elim
  | some ρ1 =>
    simp only [q2] at p1
    have lv := q gs vs ρ ⟨ρ1, q2⟩
    have lx : xs.length = n := by rw [r1.len, lv, hl]
    refine ⟨by rw [lx]; exact line1000 hln, fun t ht => ?_⟩
    have nw2 := nw1.sg.fresh (o := .tup xs) ht
    refine ⟨t, xs, rfl, .inl (.inl upd_same), lx, φ1, _, ρ, S1, vs, nw2.sg, (sl.now nw1).now nw2, RepVs.ext nw2.ext nw2.le r1, ?_⟩
    simp only [q2]
    exact fun σ1 sl1 _ => PostS.nx nw2.sg sl1 (PostS.start nw1.sg nw2 p1)⟩⟩
theorem ds_par2 (i j : Nat) {x y : Str} {px py pt pos2 : Pos} {kt k2 : Nat} (hc : X.calm = true) (hN : X.N.Nodup) (hi : X.N[i]? = some x) (hj : X.N[j]? = some y) (hij : i ≠ j) (hx : X.env.scope.names.lookup x = some .local) (hy : X.env.scope.names.lookup y = some .local) (ha : DA τ X W [a, b] fs)
    (hw : swappedStores [.Tuple [.Name x px, .Name y py] kt pt] (.Tuple [a, b] k2 pos2) X.env = pure (some [x, y]) := by rfl) (hs : swapsWithSole [.Tuple [.Name x px, .Name y py] kt pt] (.Tuple [a, b] k2 pos2) pos.line X.env = pure false := by rfl) :
    DS τ X W (.Assign [.Tuple [.Name x px, .Name y py] kt pt] (.Tuple [a, b] k2 pos2) pos) (sPar [gN i, gN j] fs) := ⟨PS.mono (ps_par hc hN hi hj hij hx hy ha.r hw hs) fun E σ H ⟨φ, F, ρ, S, g, sl, p⟩ => ⟨φ, F, ρ, S, g, sl, PostS.st g sl p fun φ1 F1 H1 S1 vs xs nw1 r1 p1 => by
  cases vs with
  | nil => exact p1.elim
  | cons v vs =>
    cases vs with
    | nil => exact p1.elim
    | cons u vs =>
      cases vs with
      | cons _ _ => exact p1.elim
      | nil =>
        obtain ⟨x1, x2, rfl, q1, q2⟩ := reps2 r1
        exact ⟨x1, x2, rfl, PostS.nx nw1.sg (((sl.now nw1).set q1).set q2) p1⟩⟩⟩
theorem ds_par3 (i j l : Nat) {x y z : Str} {px py pz pt pos2 : Pos} {kt k2 : Nat} (hc : X.calm = true) (hN : X.N.Nodup) (hi : X.N[i]? = some x) (hj : X.N[j]? = some y) (hl : X.N[l]? = some z) (hij : i ≠ j) (hil : i ≠ l) (hjl : j ≠ l) (hx : X.env.scope.names.lookup x = some .local) (hy : X.env.scope.names.lookup y = some .local)
    (hz : X.env.scope.names.lookup z = some .local) (ha : DA τ X W [a, b, c] fs) (hw : swappedStores [.Tuple [.Name x px, .Name y py, .Name z pz] kt pt] (.Tuple [a, b, c] k2 pos2) X.env = pure (some [x, y, z]) := by rfl)
    (hs : swapsWithSole [.Tuple [.Name x px, .Name y py, .Name z pz] kt pt] (.Tuple [a, b, c] k2 pos2) pos.line X.env = pure false := by rfl) :
    DS τ X W (.Assign [.Tuple [.Name x px, .Name y py, .Name z pz] kt pt] (.Tuple [a, b, c] k2 pos2) pos) (sPar [gN i, gN j, gN l] fs) := ⟨PS.mono (ps_par3 hc hN hi hj hl hij hil hjl hx hy hz ha.r hw hs) fun E σ H ⟨φ, F, ρ, S, g, sl, p⟩ => ⟨φ, F, ρ, S, g, sl, PostS.st g sl p fun φ1 F1 H1 S1 vs xs nw1 r1 p1 => by
  cases vs with
  | nil => exact p1.elim
  | cons v vs =>
    cases vs with
    | nil => exact p1.elim
    | cons u vs =>
      cases vs with
      | nil => exact p1.elim
      | cons t vs =>
        cases vs with
        | cons _ _ => exact p1.elim
        | nil =>
          cases xs with
          | nil => exact r1.elim
          | cons x0 xs =>
            obtain ⟨x1, x2, rfl, q1, q2⟩ := reps2 r1.2
            exact ⟨x0, x1, x2, rfl, PostS.nx nw1.sg ((((sl.now nw1).set r1.1).set q1).set q2) p1⟩⟩⟩
theorem ds_if (hc : DT τ X W c ga) (ha : DB τ X W body sf) (hb : DB τ X W els sg) : DS τ X W (.If c body els pos) (sIf ga sf sg) := ⟨PS.mono (ps_if hc.r ha.r hb.r) fun E σ H ⟨φ, F, ρ, S, g, sl, p⟩ => ⟨φ, F, ρ, S, g, sl, PostS.st (R := RepB) g sl p fun φ1 F1 H1 S1 v x nw1 r1 p1 => by
  have r1 : x = v := r1
  subst r1
  cases x with
  | true => exact ⟨φ1, F1, ρ, S1, nw1.sg, sl.now nw1, p1⟩
  | false => exact ⟨φ1, F1, ρ, S1, nw1.sg, sl.now nw1, p1⟩⟩⟩
theorem ds_aug (i : Nat) {x : Str} {op : Operator} {o : Vl → Vl → Store → Res Vl} {r : R2} (hN : X.N.Nodup) (hi : X.N[i]? = some x) (hx : Loc X.env.scope x) (h : DE τ X W e f) (ho : OpR X (inplaceOp op) r) (ok : OpOk τ X.K X.mg r o) (hf : X.fn x = true ∨ X.env.scope.names.lookup x = some .local := by first | exact .inl rfl | exact .inr rfl | assumption) :
    DS τ X W (.AugAssign (.Name x pos') op e pos) (sAug i o f) := ⟨PS.mono (ps_aug (ti := r) hN hi hx h.r (fun pins s σ H x y v u Q I rx ry q => ho pins s σ H x y v u Q I rx ry q) hf) fun E σ H ⟨φ, F, ρ, S, g, sl, p⟩ => by
  unfold sAug at p
  split at p
  · rename_i v q
    obtain ⟨x, h1, h2⟩ := sl.2 i v q
    refine ⟨x, h1, φ, F, ρ, S, g, sl, PostS.st g sl p fun φ1 F1 H1 S1 u y nw1 r1 p1 => ok nw1.sg (h2.now nw1) r1 (PostS.st (R := RepV X.K X.mg) nw1.sg (sl.now nw1) p1 fun φ2 F2 H2 S2 w z nw2 r2 p2 => PostS.nx nw2.sg (((sl.now nw1).now nw2).set r2) p2)⟩
  · exact p.elim⟩
theorem ds_put {o i : Expr} {fo fi fe : Ev} {p2 : Pos} (ho : DE τ X W o fo) (hi : DE τ X W i fi) (he : DE τ X W e fe) (hs : swapsWithSole [.Subscript o i p2] e pos.line X.env = pure false := by rfl) (hw : swappedStores [.Subscript o i p2] e X.env = pure none := by rfl)
    (h1 : (assignEach [.Subscript o i p2] X.env).map (·.2) = [assign (.Subscript o i p2) X.env] := by rfl) (ha : ∀ v, assign (.Subscript o i p2) X.env v = (do
      let ov ← holding [v] (eval o X.env)
      let iv ← holding [v, ov] (eval i X.env)
      standAt p2
      holding [v, ov, iv] (setItem ov iv v)
      release [v, ov, iv] []) := by intro _; rfl) : DS τ X W (.Assign [.Subscript o i p2] e pos) (sPut fo fi fe) :=
  ⟨PS.mono (ps_asg he.r (pg_sub ho.r hi.r set_list ha) hs hw h1) fun E σ H ⟨φ, F, ρ, S, g, sl, p⟩ => ⟨φ, F, ρ, S, g, sl, PostS.st g sl p fun φ1 F1 H1 S1 v x nw1 r1 p1 => by
    have hne : fr v S1 ≠ .bad := fun e => by rw [e] at p1; exact p1
    obtain ⟨φ2, F2, S2, d, nw2, f2, e2⟩ := fr_ok nw1.sg r1 hne
    rw [e2] at p1
    have p2 := PostS.start nw1.sg nw2 p1
    have sl2 := (sl.now nw1).now nw2
    refine ⟨φ2, F2, ρ, S2, nw2.sg, sl2, PostS.st nw2.sg sl2 p2 fun φ3 F3 H3 S3 ov ox nw3 r3 p3 => ⟨φ3, F3, ρ, S3, nw3.sg, sl2.now nw3, PostS.st nw3.sg (sl2.now nw3) p3 fun φ4 F4 H4 S4 iv ix nw4 r4 p4 => ?_⟩⟩
    split at p4
    · rename_i nn k q
      have r3' := RepV.now nw4 r3
      obtain ⟨hn, rfl⟩ := r3'
      split at p4
      · rename_i xs q2
        split at p4
        · rename_i j q3
          obtain ⟨h1, ys, h2, h3⟩ := nw4.sg.obj nn _ q2
          have f4 : Fz X.K F4 H4 x d := (f2.ext nw3.ext.sub nw3.ext.same).ext nw4.ext.sub nw4.ext.same
          refine ⟨φ4 nn, ys, k, j, rfl, ob_of nw4.sg r4 q, h2, by rw [h3.len]; exact q3, ?_⟩
          have nw5 := nw4.sg.write (o := .lst (ys.set j x)) (mo := .lst (xs.set j d)) q2 rfl fun nf same => ⟨nf, _, upd_same, (h3.set f4 j).ext (fun _ h => h) same⟩
          have sl5 := ((sl2.now nw3).now nw4).now nw5
          exact PostS.nx nw5.sg sl5 (PostS.start nw4.sg nw5 p4)
        · exact p4.elim
      · exact p4.elim
    · exact p4.elim⟩⟩
end
def YI (K : PySem.W.Frag) (F : Addr → Prop) (H H' : Hp) (v : V) (H'' : Hp) (d : D) : Prop :=
  (H'' = H' ∧ Fz K F H v d) ∨ ∃ T vs es, v = .ref T ∧ H' T = none ∧ H'' = upd H' T (.tup vs) ∧ d = .tuple es ∧ FzAll K F H vs es
abbrev Agree (F : Addr → Prop) (H H' : Hp) : Prop := ∀ a, F a → H' a = H a
structure Yl (K : PySem.W.Frag) (F : Addr → Prop) (H : Hp) (J : It) (ds : List D) : Prop where
  goes : ∀ i H', i < ds.length → Agree F H H' → J.go i H'
  stops : ∀ H', Agree F H H' → J.stop ds.length H'
  yields : ∀ i H' v H'', i < ds.length → Agree F H H' → J.yld i H' v H'' → ∃ d, ds[i]? = some d ∧ YI K F H H' v H'' d
theorem Yl.walk {K : PySem.W.Frag} {F : Addr → Prop} {H : Hp} {J : It} {ds : List D} (y : Yl K F H J ds) : Walk J ds.length (Agree F H) (fun i H' v H'' => ∃ d, ds[i]? = some d ∧ YI K F H H' v H'' d) :=
  ⟨fun i H' h g => y.goes i H' h g, fun H' g => y.stops H' g, fun i H' v H'' h g q => y.yields i H' v H'' h g q⟩
abbrev RepY (K : PySem.W.Frag) : (Nat → Addr) → (Addr → Prop) → Hp → Nat → It → List D → Prop := fun _ F H _ J ds => Yl K F H J ds
def RI (τ : Tb) (K : PySem.W.Frag) (mg : Str → Option Value) (W : WX) (f : Iv) : TI := fun σ H R => ∃ φ F ρ S, SG τ K φ F H S ∧ Slots K mg φ F H S.length σ ρ ∧ PostG τ K mg (RepY K) (fun c od H' => W c od σ H') S.length φ F H R (f ρ S)
structure DI (τ : Tb) (X : Cx) (W : WX) (tg it : Expr) (f : Iv) : Prop where
  r : PI X tg it (RI τ X.K X.mg W f)
theorem PI.mono {X : Cx} {tg e : Expr} {t t' : TI} (h : PI X tg e t) (m : ∀ σ H Q, t' σ H Q → t σ H Q) : PI X tg e t' := ⟨fun pins s σ H Q I q => h.run pins s σ H Q I (m _ _ _ q)⟩
def iSeq (f : Ev) : Iv := fun ρ S => (f ρ S).bind fun v S1 => (fr v S1).bind fun d S2 => match seqOf d with
  | some ds => .ok ds S2
  | none => .bad
def rangeD (lo hi : Int) : List D := (List.range (hi - lo).toNat).map fun i => .int (lo + (i : Nat))
def iRange (f : Av) : Iv := fun ρ S => (f ρ S).bind fun vs S1 => match vs with
  | [v] => match view S1 v with
    | some (.int j) => if -(2 ^ 62) ≤ j ∧ j < 2 ^ 62 then .ok (rangeD 0 j) S1 else .bad
    | _ => .bad
  | [v, u] => match view S1 v, view S1 u with
    | some (.int i), some (.int j) => if -(2 ^ 62) ≤ i ∧ i < 2 ^ 62 ∧ -(2 ^ 62) ≤ j ∧ j < 2 ^ 62 then .ok (rangeD i j) S1 else .bad
    | _, _ => .bad
  | _ => .bad
section
variable {X : Cx} {W : WX} {tg l : Expr}
def jSeq (K : PySem.W.Frag) (tl : TE) : TI := fun σ H R => tl σ H fun x H1 => ∃ a, x = .ref a ∧ (((∃ xs, SqL K H1 a xs) ∧ R (Itl K a) H1) ∨ ((∃ xs, SqT K H1 a xs) ∧ R (Itt K a) H1))
theorem pi_seq {tl : TE} (h : PE X l tl) : PI X tg l (jSeq X.K tl) := ⟨fun pins s σ H R I q => thn (h.run pins s σ H _ I q) fun v s1 ⟨x, H1, I1, r1, a, e, q1⟩ => by
  subst e
  cases r1
  have fresh : ∀ b ∈ [s1.heap.objs.size], FpOk X pins H1 b := fun b hb => by
    obtain rfl : b = s1.heap.objs.size := by simpa using hb
    exact I1.fpOk (Nat.le_refl _) (I1.hok.fresh (Nat.le_refl _))
  rcases q1 with ⟨⟨xs, hq⟩, q1⟩ | ⟨⟨xs, hq⟩, q1⟩
  · obtain ⟨its, _, p, _⟩ := I1.list hq
    exact wpAny_pyIter_list p.isList ⟨_, _, _, _, H1, rfl, I1.kept (t' := s1.toks) fun b o e => Heap.get?_push_of_some _ e, turn_list a _, ⟨_, Heap.get?_push_size _ rfl, rfl, rfl⟩, fresh, q1⟩
  · obtain ⟨its, _, p, _⟩ := I1.tuple hq
    exact wpAny_pyIter_tuple (show s1.heap.IsTuple a its.toArray from p) ⟨_, _, _, _, H1, rfl, I1.kept (t' := s1.toks) fun b o e => Heap.get?_push_of_some _ e, turn_tuple a _, ⟨_, Heap.get?_push_size _ rfl, rfl, rfl⟩, fresh, q1⟩⟩
variable {K : PySem.W.Frag} {F : Addr → Prop} {H : Hp} {a b : Addr} {xs ys : List V} {ds es : List D}
theorem yl_list (hf : F a) (h1 : H a = some (.lst xs)) (h2 : FzAll K F H xs ds) : Yl K F H (Itl K a) ds := by
  have at_ : ∀ H', Agree F H H' → SqL K H' a xs := fun H' g => .inl (.inl ((g a hf).trans h1))
  refine ⟨fun i H' hi g => ?_, fun H' g => ⟨xs, at_ H' g, by rw [h2.len]; exact Nat.le_refl _⟩, fun i H' v H'' hi g y => ?_⟩
  · obtain ⟨v, hv, _⟩ := h2.get (List.getElem?_eq_getElem hi)
    exact ⟨xs, v, at_ H' g, hv⟩
  · obtain ⟨v', hv, fv⟩ := h2.get (List.getElem?_eq_getElem hi)
    have e := y.2 xs (at_ H' g)
    rw [hv] at e
    cases e
    exact ⟨ds[i], List.getElem?_eq_getElem hi, .inl ⟨y.1, fv⟩⟩
theorem yl_tup (h1 : FqT K F H a xs) (h2 : FzAll K F H xs ds) : Yl K F H (Itt K a) ds := by
  have at_ : ∀ H', Agree F H H' → SqT K H' a xs := fun H' g => (h1.ext (fun _ h => h) g).sq
  refine ⟨fun i H' hi g => ?_, fun H' g => ⟨xs, at_ H' g, by rw [h2.len]; exact Nat.le_refl _⟩, fun i H' v H'' hi g y => ?_⟩
  · obtain ⟨v, hv, _⟩ := h2.get (List.getElem?_eq_getElem hi)
    exact ⟨xs, v, at_ H' g, hv⟩
  · obtain ⟨v', hv, fv⟩ := h2.get (List.getElem?_eq_getElem hi)
    have e := y.2 xs (at_ H' g)
    rw [hv] at e
    cases e
    exact ⟨ds[i], List.getElem?_eq_getElem hi, .inl ⟨y.1, fv⟩⟩
theorem rangeD_len {lo hi : Int} : (rangeD lo hi).length = (hi - lo).toNat := by simp [rangeD]
theorem yl_range {lo hi : Int} : Yl K F H (Itr lo (hi - lo).toNat) (rangeD lo hi) := by
  refine ⟨fun i H' hi _ => by rw [rangeD_len] at hi; exact hi, fun H' _ => by rw [rangeD_len]; exact Nat.le_refl _, fun i H' v H'' hi _ y => ?_⟩
  rw [rangeD_len] at hi
  exact ⟨.int (lo + (i : Nat)), by simp [rangeD, hi], .inl ⟨y.1, by rw [y.2]; exact .int _⟩⟩
theorem di_seq {f : Ev} (h : DE τ X W l f) : DI τ X W tg l (iSeq f) := ⟨PI.mono (pi_seq h.r) fun σ H Q ⟨φ, F, ρ, S, g, sl, p⟩ => ⟨φ, F, ρ, S, g, sl, PostG.bind g p fun φ1 F1 H1 S1 v x nw1 r1 p1 => by
  have hne : fr v S1 ≠ .bad := fun e => by rw [e] at p1; exact p1
  obtain ⟨φ2, F2, S2, d, nw2, f2, e2⟩ := fr_ok nw1.sg r1 hne
  rw [e2] at p1
  have p2 := PostG.start nw1.sg nw2 p1
  cases d <;> first | exact p2.elim | skip
  · cases f2 with
    | lst h1 h2 h3 => exact ⟨_, rfl, .inl ⟨⟨_, .inl (.inl h2)⟩, p2 _ _ _ (.refl nw2.sg) _ (yl_list h1 h2 h3)⟩⟩
  · cases f2 with
    | tup h1 h2 => exact ⟨_, rfl, .inr ⟨⟨_, h1.sq⟩, p2 _ _ _ (.refl nw2.sg) _ (yl_tup h1 h2)⟩⟩⟩⟩
theorem range_1 {f : Av} {σ : L2.St} {H : Hp} {R : It → Hp → Prop} (h : RI τ X.K X.mg W (iRange f) σ H R) (h1 : ∀ ρ S vs S1, f ρ S = .ok vs S1 → ∃ v, vs = [v]) : iRng1 (RA τ X.K X.mg W f) σ H R := by
  obtain ⟨φ, F, ρ, S, g, sl, p⟩ := h
  refine ⟨φ, F, ρ, S, g, sl, ?_⟩
  unfold iRange at p
  cases e0 : f ρ S with
  | bad => rw [e0] at p; exact p
  | ex e S1 => rw [e0] at p; exact p
  | ok vs S1 =>
    rw [e0] at p
    obtain ⟨v, rfl⟩ := h1 _ _ _ _ e0
    intro φ1 F1 H1 nw1 xs r
    have p1 := PostG.start g nw1 p
    obtain ⟨x, rfl, r1⟩ := reps1 r
    simp only [bind_ok] at p1
    cases e : view S1 v with
    | none => simp only [e] at p1; exact p1.elim
    | some d =>
      simp only [e] at p1
      cases d <;> dsimp only at p1 <;> first | exact p1.elim | skip
      rename_i j
      by_cases hl : -(2 ^ 62) ≤ j ∧ j < 2 ^ 62
      · rw [if_pos hl] at p1
        refine ⟨j, by rw [show x = _ from ob_of nw1.sg r1 e], hl.1, hl.2, ?_⟩
        have y := p1 _ _ _ (.refl nw1.sg) _ (yl_range (K := X.K) (F := F1) (H := H1) (lo := 0) (hi := j))
        rwa [Int.sub_zero] at y
      · rw [if_neg hl] at p1; exact p1.elim
theorem range_2 {f : Av} {σ : L2.St} {H : Hp} {R : It → Hp → Prop} (h : RI τ X.K X.mg W (iRange f) σ H R) (h1 : ∀ ρ S vs S1, f ρ S = .ok vs S1 → ∃ v u, vs = [v, u]) : iRng2 (RA τ X.K X.mg W f) σ H R := by
  obtain ⟨φ, F, ρ, S, g, sl, p⟩ := h
  refine ⟨φ, F, ρ, S, g, sl, ?_⟩
  unfold iRange at p
  cases e0 : f ρ S with
  | bad => rw [e0] at p; exact p
  | ex e S1 => rw [e0] at p; exact p
  | ok vs S1 =>
    rw [e0] at p
    obtain ⟨v, u, rfl⟩ := h1 _ _ _ _ e0
    intro φ1 F1 H1 nw1 xs r
    have p1 := PostG.start g nw1 p
    obtain ⟨x, y, rfl, r1, r2⟩ := reps2 r
    simp only [bind_ok] at p1
    split at p1
    · rename_i i j e1 e2
      by_cases hl : -(2 ^ 62) ≤ i ∧ i < 2 ^ 62 ∧ -(2 ^ 62) ≤ j ∧ j < 2 ^ 62
      · rw [if_pos hl] at p1
        exact ⟨i, j, by rw [show x = _ from ob_of nw1.sg r1 e1, show y = _ from ob_of nw1.sg r2 e2], hl, p1 _ _ _ (.refl nw1.sg) _ yl_range⟩
      · rw [if_neg hl] at p1; exact p1.elim
    · exact p1.elim
theorem cons1 {f : Ev} {ρ : Env} {S S1 : Store} {vs : List Vl} (h : aCons f aNil ρ S = .ok vs S1) : ∃ v, vs = [v] := by
  unfold aCons aNil at h
  cases e : f ρ S with
  | ok v S2 => simp only [e, bind_ok] at h; cases h; exact ⟨v, rfl⟩
  | ex x S2 => simp only [e, bind_ex] at h; cases h
  | bad => simp only [e, bind_bad] at h; cases h
theorem cons2 {f g : Ev} {ρ : Env} {S S1 : Store} {vs : List Vl} (h : aCons f (aCons g aNil) ρ S = .ok vs S1) : ∃ v u, vs = [v, u] := by
  unfold aCons at h
  cases e : f ρ S with
  | ok v S2 =>
    simp only [e, bind_ok] at h
    cases e2 : ((g ρ S2).bind fun v S1 => (aNil ρ S1).bind fun vs S2 => Res.ok (v :: vs) S2) with
    | ok us S3 =>
      simp only [e2, bind_ok] at h
      cases h
      obtain ⟨u, rfl⟩ := cons1 (f := g) e2
      exact ⟨v, u, rfl⟩
    | ex x S2 => simp only [e2, bind_ex] at h; cases h
    | bad => simp only [e2, bind_bad] at h; cases h
  | ex x S2 => simp only [e, bind_ex] at h; cases h
  | bad => simp only [e, bind_bad] at h; cases h
theorem di_range1 {c : Expr} {f : Ev} {p pos : Pos} (hg : Gl X "range") (hm : X.mg "range" = none) (h : DA τ X W [c] (aCons f aNil)) (hs : starEach [c] X.env = [(false, eval c X.env)] := by rfl) : DI τ X W tg (.Call (.Name "range" p) [c] [] pos) (iRange (aCons f aNil)) :=
  ⟨PI.mono (pi_range1 hg hm h.r hs) fun σ H Q q => range_1 q fun _ _ _ _ => cons1⟩
theorem di_range2 {c d : Expr} {f f' : Ev} {p pos : Pos} (hg : Gl X "range") (hm : X.mg "range" = none) (h : DA τ X W [c, d] (aCons f (aCons f' aNil))) (hs : starEach [c, d] X.env = [(false, eval c X.env), (false, eval d X.env)] := by rfl) (hs2 : starEach [d] X.env = [(false, eval d X.env)] := by rfl) :
    DI τ X W tg (.Call (.Name "range" p) [c, d] [] pos) (iRange (aCons f (aCons f' aNil))) := ⟨PI.mono (pi_range2 hg hm h.r hs hs2) fun σ H Q q => range_2 q fun _ _ _ _ => cons2⟩
end
section
variable {X : Cx} {W : WX} {k : Nat} {tg it c : Expr} {body : List Stmt} {pos : Pos} {f : Iv} {g : Tg} {ws : List Nat} {sb : Sv} {gc : Tv}
theorem ds_for {j : Nat} (cc : Cc X W j) (hi : DI τ X W tg it f) (hg : DG τ X tg g ws) (hb : DB τ X W body sb) (hs : ∀ x, foldedSetIterable it X.env x = pure x := by intro _; rfl) : DS τ X W (.For tg it body [] pos) (sFor f g sb) :=
  ⟨PS.mono (ps_for cc.po cc.calm hi.r hg.r hb.r hs) fun E σ H ⟨φ, F, ρ, S, gs, sl, p⟩ => ⟨φ, F, ρ, S, gs, sl, PostS.st (R := RepY X.K) gs sl p fun φ1 F1 H1 S1 ds J nw1 yl p1 => by
    have ag : ∀ {φ2 F2 H2 S2}, Now τ X.K S1.length φ1 F1 H1 φ2 F2 H2 S2 → Agree F1 H1 H2 := fun n a h => n.ext.same a h
    refine for_it yl.walk (fun i σ2 H2 => ∃ φ2 F2 ρ2 S2, Now τ X.K S1.length φ1 F1 H1 φ2 F2 H2 S2 ∧ Slots X.K X.mg φ2 F2 H2 S2.length σ2 ρ2 ∧ PostS τ X.K X.mg W S2.length φ2 F2 H2 E (forL g sb (ds.drop i) ρ2 S2)) ⟨φ1, F1, ρ, S1, .refl nw1.sg, sl.now nw1, p1⟩ (fun i σ2 H2 _ ⟨_, _, _, _, n, _⟩ => ag n) ?_ ?_
    · intro i v σ2 H2 H3 hlt ⟨φ2, F2, ρ2, S2, nw2, sl2, p2⟩ ⟨d, hd, yi⟩
      have hdr : ds.drop i = d :: ds.drop (i + 1) := by
        obtain ⟨h1, h2⟩ := List.getElem?_eq_some_iff.mp hd
        rw [← h2, List.drop_eq_getElem_cons h1]
      rw [hdr] at p2
      -- the item, frozen
      obtain ⟨F3, nw3, fz3⟩ : ∃ F3, Now τ X.K S2.length φ2 F2 H2 φ2 F3 H3 S2 ∧ Fz X.K F3 H3 v d := by
        rcases yi with ⟨rfl, fz⟩ | ⟨T, vs, es, rfl, hT, rfl, rfl, fz⟩
        · exact ⟨F2, .refl nw2.sg, fz.ext nw2.ext.sub nw2.ext.same⟩
        · have nw := nw2.sg.fresh (o := .tup vs) hT
          exact ⟨_, nw, .tup (.inl ⟨.inr rfl, upd_same⟩) ((fz.ext nw2.ext.sub nw2.ext.same).ext nw.ext.sub nw.ext.same)⟩
      have p3 := PostS.start nw2.sg nw3 p2
      have sl3 := sl2.now nw3
      refine ⟨φ2, F3, ρ2, S2, .d d, nw3.sg, sl3, fz3, ?_⟩
      unfold forL at p3
      cases q : g (.d d) ρ2 with
      | none => rw [q] at p3; exact p3.elim
      | some ρ3 =>
        simp only [q] at p3 ⊢
        refine fun σ3 sl4 _ => ⟨φ2, F3, ρ3, S2, nw3.sg, sl4, ?_⟩
        have base := Now.trans nw1.sg nw2 nw3
        cases e : sb ρ3 S2 with
        | nx ρ4 S4 =>
          simp only [e] at p3
          exact fun φ5 F5 H5 nw5 σ5 sl5 => ⟨φ5, F5, ρ4, S4, Now.trans nw1.sg base nw5, sl5, PostS.start nw3.sg nw5 p3⟩
        | ct ρ4 S4 =>
          simp only [e] at p3
          exact fun φ5 F5 H5 nw5 σ5 sl5 => ⟨φ5, F5, ρ4, S4, Now.trans nw1.sg base nw5, sl5, PostS.start nw3.sg nw5 p3⟩
        | bk ρ4 S4 => simp only [e] at p3; exact p3
        | ret v4 S4 => simp only [e] at p3; exact p3
        | ex x4 ρ4 S4 => simp only [e] at p3; exact p3
        | bad => simp only [e] at p3; exact p3
    · intro σ2 H2 ⟨φ2, F2, ρ2, S2, nw2, sl2, p2⟩
      rw [List.drop_length] at p2
      exact PostS.nx nw2.sg sl2 p2⟩⟩
theorem ds_while {j : Nat} (cc : Cc X W j) (hc : DT τ X W c gc) (hb : DB τ X W body sb) : DS τ X W (.While c body [] pos) (sWhile gc sb) :=
  ⟨PS.mono (ps_while cc.po hc.r hb.r) fun E σ H ⟨φ, F, ρ, S, gs, sl, p⟩ => by
    have hne : sWhile gc sb ρ S ≠ .bad := fun e => by rw [e] at p; exact p
    obtain ⟨n, hn⟩ := sWhile_ex hne
    refine ⟨fun m σ2 H2 => ∃ φ2 F2 ρ2 S2 r, SG τ X.K φ2 F2 H2 S2 ∧ Slots X.K X.mg φ2 F2 H2 S2.length σ2 ρ2 ∧ whN gc sb m ρ2 S2 = some r ∧ PostS τ X.K X.mg W S2.length φ2 F2 H2 E r, ⟨n, φ, F, ρ, S, _, gs, sl, hn, p⟩, ?_⟩
    rintro m σ2 H2 ⟨φ2, F2, ρ2, S2, r, gs2, sl2, hm, p2⟩
    cases m with
    | zero => simp [whN] at hm
    | succ m =>
      refine ⟨φ2, F2, ρ2, S2, gs2, sl2, ?_⟩
      unfold whN at hm
      cases e : gc ρ2 S2 with
      | bad => simp only [e] at hm; cases hm; exact p2
      | ex x S3 =>
        simp only [e] at hm
        cases hm
        exact fun φ' F' H' nw c od rx => p2 φ' F' H' nw c od rx σ2 (sl2.now nw)
      | ok t S3 =>
        intro φ3 F3 H3 nw3 b eb
        have eb : b = t := eb
        subst eb
        cases b with
        | false =>
          simp only [e] at hm
          cases hm
          simp only [Bool.false_eq_true, if_false]
          exact p2 _ _ _ nw3 σ2 (sl2.now nw3)
        | true =>
          simp only [e] at hm
          simp only [if_true]
          refine ⟨fun σ4 H4 => ∃ φ4 F4 ρ4 S4 r, SG τ X.K φ4 F4 H4 S4 ∧ Slots X.K X.mg φ4 F4 H4 S4.length σ4 ρ4 ∧ whN gc sb m ρ4 S4 = some r ∧ PostS τ X.K X.mg W S4.length φ4 F4 H4 E r, fun σ4 H4 h => ⟨m, Nat.lt_succ_self m, h⟩, φ3, F3, ρ2, S3, nw3.sg, sl2.now nw3, ?_⟩
          have p3 := PostS.start gs2 nw3 p2
          cases e2 : sb ρ2 S3 with
          | nx ρ4 S4 =>
            simp only [e2] at hm
            exact fun φ5 F5 H5 nw5 σ5 sl5 => ⟨φ5, F5, ρ4, S4, r, nw5.sg, sl5, hm, PostS.start nw3.sg nw5 p3⟩
          | ct ρ4 S4 =>
            simp only [e2] at hm
            exact fun φ5 F5 H5 nw5 σ5 sl5 => ⟨φ5, F5, ρ4, S4, r, nw5.sg, sl5, hm, PostS.start nw3.sg nw5 p3⟩
          | bk ρ4 S4 => simp only [e2] at hm; cases hm; exact p3
          | ret v4 S4 => simp only [e2] at hm; cases hm; exact p3
          | ex x4 ρ4 S4 => simp only [e2] at hm; cases hm; exact p3
          | bad => simp only [e2] at hm; cases hm; exact p3⟩
end
def wipeE (ρ : Env) : List Nat → Env
  | [] => ρ
  | v :: vs => (wipeE ρ vs).set v none
def noX {α : Type} : Res α → Res α
  | .ok a S => .ok a S
  | _ => .bad
@[simp] theorem noX_ok {α : Type} (a : α) (S : Store) : noX (Res.ok a S) = .ok a S := rfl
def lcL (g : Tg) (t : Tv) (e : Ev) (ρ : Env) : List D → List D → Store → Res (List D)
  | [], acc, S => .ok acc S
  | x :: xs, acc, S => match g (.d x) ρ with
    | none => .bad
    | some ρ1 => (noX (t ρ1 S)).bind fun c S1 => if c = true then (noX (e ρ1 S1)).bind fun v S2 => (fr v S2).bind fun d S3 => if acc.length < sizeLine then lcL g t e ρ xs (acc ++ [d]) S3 else .bad
      else lcL g t e ρ xs acc S1
def eLc (m : Bool) (it : Iv) (g : Tg) (t : Tv) (e : Ev) (vs : List Nat) : Ev := fun ρ S => (it ρ S).bind fun ds S1 => (lcL g t e (wipeE ρ vs) ds [] S1).bind fun acc S2 => mkL m acc S2
def tYesD : Tv := fun _ S => .ok true S
structure DTs (τ : Tb) (X : Cx) (W : WX) (ifs : List Expr) (t : Tv) : Prop where
  r : PTs X ifs (RT τ X.K X.mg W t)
theorem PTs.mono {X : Cx} {e : List Expr} {t t' : TT} (h : PTs X e t) (m : ∀ σ H Q, t' σ H Q → t σ H Q) : PTs X e t' := ⟨fun pins s σ H Q I q => h.run pins s σ H Q I (m _ _ _ q)⟩
theorem dts_nil {X : Cx} {W : WX} : DTs τ X W [] tYesD := ⟨PTs.mono pts_nil fun σ H Q ⟨φ, F, ρ, S, g, sl, p⟩ => PostT.ok g p⟩
theorem dts_one {X : Cx} {W : WX} {c : Expr} {t : Tv} (h : DT τ X W c t) : DTs τ X W [c] t := ⟨pts_one h.r⟩
section
variable {K : PySem.W.Frag} {mg : Str → Option Value} {φ : Nat → Addr} {F : Addr → Prop} {H : Hp} {n : Nat}
theorem wipeE_length (ρ : Env) : ∀ vs : List Nat, (wipeE ρ vs).length = ρ.length
  | [] => rfl
  | v :: vs => by unfold wipeE; rw [List.length_set, wipeE_length ρ vs]
theorem wipe_get (σ : L2.St) (i : Nat) : ∀ vs : List Nat, (L2.wipe σ vs)[i]? = if i ∈ vs then (if i < σ.length then some none else none) else σ[i]?
  | [] => by simp [L2.wipe]
  | v :: vs => by
    unfold L2.wipe
    by_cases hv : v = i
    · subst hv
      by_cases hl : v < σ.length
      · rw [List.getElem?_set_self (by rw [wipe_length]; exact hl)]; simp [hl]
      · rw [List.getElem?_eq_none (by rw [List.length_set, wipe_length]; omega)]; simp [hl]
    · rw [List.getElem?_set_ne hv, wipe_get σ i vs]
      have : i ∈ v :: vs ↔ i ∈ vs := by simp [Ne.symm hv]
      simp only [this]
theorem wipeE_get (σ : Env) (i : Nat) : ∀ vs : List Nat, (wipeE σ vs)[i]? = if i ∈ vs then (if i < σ.length then some none else none) else σ[i]?
  | [] => by simp [wipeE]
  | v :: vs => by
    unfold wipeE
    by_cases hv : v = i
    · subst hv
      by_cases hl : v < σ.length
      · rw [List.getElem?_set_self (by rw [wipeE_length]; exact hl)]; simp [hl]
      · rw [List.getElem?_eq_none (by rw [List.length_set, wipeE_length]; omega)]; simp [hl]
    · rw [List.getElem?_set_ne hv, wipeE_get σ i vs]
      have : i ∈ v :: vs ↔ i ∈ vs := by simp [Ne.symm hv]
      simp only [this]
theorem Slots.wiped {σ : L2.St} {ρ : Env} (r : Slots K mg φ F H n σ ρ) (vs : List Nat) : Slots K mg φ F H n (L2.wipe σ vs) (wipeE ρ vs) := by
  refine ⟨by rw [wipe_length, wipeE_length]; exact r.1, fun i x h => ?_⟩
  rw [wipeE_get] at h
  split at h
  · split at h <;> cases h
  · rename_i hn
    obtain ⟨v, h1, h2⟩ := r.2 i x h
    exact ⟨v, by rw [wipe_get, if_neg hn]; exact h1, h2⟩
theorem wipe_same {σ σ1 : L2.St} {ws vs : List Nat} (hw : ∀ i, i ∈ ws → i ∈ vs) (kp : Kept ws (L2.wipe σ vs) σ1) : L2.wipe σ1 vs = L2.wipe σ vs := by
  obtain ⟨hl, h⟩ := kp
  apply List.ext_getElem?
  intro i
  rw [wipe_length] at hl
  rw [wipe_get, wipe_get]
  by_cases hi : i ∈ vs
  · simp only [hi, if_true, hl]
  · simp only [hi, if_false]
    rw [h i fun q => hi (hw i q), wipe_get, if_neg hi]
end
section
variable {X : Cx} {W : WX} {tg it elt : Expr} {ifs : List Expr} {scope : Scope} {own : List (Str × Nat)} {pos : Pos} {f : Iv} {g : Tg} {ws : List Nat} {t : Tv} {e : Ev}
theorem lc_reads {m : Bool} {vs : List Nat} (hw : ∀ i, i ∈ ws → i ∈ vs) {σ : L2.St} {H : Hp} {Q : VK} (h : RE τ X.K X.mg W (eLc m f g t e vs) σ H Q) :
    tLc (RI τ X.K X.mg W f) (RG τ X.K X.mg g ws) (RT τ X.K X.mg W0 t) (RE τ X.K X.mg W0 e) vs σ H Q := by
  obtain ⟨φ, F, ρ, S, gs, sl, p⟩ := h
  refine ⟨φ, F, ρ, S, gs, sl, PostG.bind gs p fun φ1 F1 H1 S1 ds J nw1 yl p1 => fun Dd hD => ?_⟩
  have sl1 := sl.now nw1
  have dom1 := nw1.sg.dom
  have nF1 : ¬ F1 Dd := fun h => dom1 Dd h hD
  refine lc_it yl.walk (fun i H2 => ∃ φ2 F2 S2 xs acc, Now τ X.K S1.length φ1 F1 H1 φ2 F2 H2 S2 ∧ H2 Dd = some (.lst xs) ∧ ¬ F2 Dd ∧ (∀ i, i < S2.length → φ2 i ≠ Dd) ∧ FzAll X.K F2 H2 xs acc ∧
      Post τ X.K X.mg (fun c od H' => W c od σ H') S1.length φ1 F1 H1 Q ((lcL g t e (wipeE ρ vs) (ds.drop i) acc S2).bind fun acc S2 => mkL m acc S2))
    ⟨φ1, F1, S1, [], [], (Now.refl nw1.sg).other hD (.inl hD) dom1 nF1 fun i hi => nw1.sg.neAt hi hD, upd_same, nF1, fun i hi => nw1.sg.neAt hi hD, .nil, p1⟩ (fun i H2 _ ⟨_, _, _, _, _, n, _⟩ a h => n.ext.same a h) ?_ ?_
  · intro i v H2 H3 hlt ⟨φ2, F2, S2, xs, acc, nw2, d2, f2, s2, fz2, p2⟩ ⟨d, hd, yi⟩
    have hdr : ds.drop i = d :: ds.drop (i + 1) := by
      obtain ⟨h1, h2⟩ := List.getElem?_eq_some_iff.mp hd
      rw [← h2, List.drop_eq_getElem_cons h1]
    rw [hdr] at p2
    obtain ⟨F3, nw3, fz3⟩ : ∃ F3, Now τ X.K S2.length φ2 F2 H2 φ2 F3 H3 S2 ∧ Fz X.K F3 H3 v d := by
      rcases yi with ⟨rfl, fz⟩ | ⟨T, us, es, rfl, hT, rfl, rfl, fz⟩
      · exact ⟨F2, .refl nw2.sg, fz.ext nw2.ext.sub nw2.ext.same⟩
      · have nw := nw2.sg.fresh (o := .tup us) hT
        exact ⟨_, nw, .tup (.inl ⟨.inr rfl, upd_same⟩) ((fz.ext nw2.ext.sub nw2.ext.same).ext nw.ext.sub nw.ext.same)⟩
    have base3 := Now.trans nw1.sg nw2 nw3
    obtain ⟨d3, f3, s3⟩ := nw3.priv (by rw [d2]; simp) (by rw [d2]; simp) f2 s2
    have slw : Slots X.K X.mg φ2 F3 H3 S2.length (L2.wipe σ vs) (wipeE ρ vs) := ((sl1.now nw2).now nw3).wiped vs
    refine ⟨φ2, F3, wipeE ρ vs, S2, .d d, nw3.sg, slw, fz3, ?_⟩
    unfold lcL at p2
    cases q : g (.d d) (wipeE ρ vs) with
    | none => rw [q] at p2; exact p2.elim
    | some ρ3 =>
      simp only [q] at p2 ⊢
      have go : Post τ X.K X.mg (fun c od H' => W c od σ H') S1.length φ1 F1 H1 Q (((noX (t ρ3 S2)).bind fun c S1 => if c = true then (noX (e ρ3 S1)).bind fun v S2 => (fr v S2).bind fun d S3 => if acc.length < sizeLine then lcL g t e (wipeE ρ vs) (ds.drop (i + 1)) (acc ++ [d]) S3 else .bad
        else lcL g t e (wipeE ρ vs) (ds.drop (i + 1)) acc S1).bind fun acc S2 => mkL m acc S2) := p2
      refine fun σ3 sl3 n3 => ⟨wipe_same hw n3, φ2, F3, ρ3, S2, nw3.sg, sl3, ?_⟩
      cases et : t ρ3 S2 with
      | bad => rw [et] at go; exact go.elim
      | ex x S4 => rw [et] at go; exact go.elim
      | ok b S4 =>
        rw [et] at go
        simp only [noX_ok, bind_ok] at go
        intro φ4 F4 H4 nw4 b' eb
        have eb : b' = b := eb
        subst eb
        have base4 := Now.trans nw1.sg base3 nw4
        obtain ⟨d4, f4, s4⟩ := nw4.priv (by rw [d3, d2]; simp) (by rw [d3, d2]; simp) f3 s3
        have d4' : H4 Dd = some (.lst xs) := by rw [d4, d3, d2]
        have fz4 : FzAll X.K F4 H4 xs acc := (fz2.ext nw3.ext.sub nw3.ext.same).ext nw4.ext.sub nw4.ext.same
        cases b' with
        | false =>
          simp only [Bool.false_eq_true, if_false] at go ⊢
          exact ⟨φ4, F4, S4, xs, acc, base4, d4', f4, s4, fz4, go⟩
        | true =>
          simp only [if_true] at go ⊢
          refine ⟨φ4, F4, ρ3, S4, nw4.sg, sl3.now nw4, ?_⟩
          cases ee : e ρ3 S4 with
          | bad => rw [ee] at go; exact go.elim
          | ex x S5 => rw [ee] at go; exact go.elim
          | ok v5 S5 =>
            rw [ee] at go
            simp only [noX_ok, bind_ok] at go
            intro φ5 F5 H5 nw5 y ry
            have hne : fr v5 S5 ≠ .bad := fun e => by rw [e] at go; exact go
            obtain ⟨φ6, F6, S6, d6, nw6, fz6, e6⟩ := fr_ok nw5.sg ry hne
            rw [e6] at go
            simp only [noX_ok, bind_ok] at go
            by_cases hl : acc.length < sizeLine
            · rw [if_pos hl] at go
              have nw56 := Now.trans nw4.sg nw5 nw6
              have base6 := Now.trans nw1.sg base4 nw56
              obtain ⟨d7, f7, s7⟩ := nw56.priv (by rw [d4']; simp) (by rw [d4']; simp) f4 s4
              rw [d4'] at d7
              have fz7 : FzAll X.K F6 H5 xs acc := fz4.ext nw56.ext.sub nw56.ext.same
              refine ⟨xs, d7, by rw [fz7.len]; exact hl, φ6, F6, S6, xs ++ [y], acc ++ [d6], base6.other hD (.inr ⟨_, d7, plain_lst⟩) dom1 f7 s7, upd_same, f7, s7, ?_, go⟩
              exact (fz7.append (.cons fz6 .nil)).ext (fun _ h => h) fun a h => upd_ne fun e => f7 (by rw [← e]; exact h)
            · rw [if_neg hl] at go; exact go.elim
  · intro H2 ⟨φ2, F2, S2, xs, acc, nw2, d2, f2, s2, fz2, p2⟩
    rw [List.drop_length] at p2
    have p2 : Post τ X.K X.mg (fun c od H' => W c od σ H') S1.length φ1 F1 H1 Q (mkL m acc S2) := p2
    cases m with
    | true => exact p2 _ _ _ (nw2.keep hD s2 ⟨f2, xs, d2, fz2⟩) _ ⟨by simp, by simp⟩
    | false => exact p2 _ _ _ (nw2.take hD (by rw [d2]; simp) (by rw [d2]; simp) s2) _ (.lst (.inr rfl) d2 (fz2.ext (fun _ h => .inl h) fun _ _ => rfl))
theorem de_lc {k : Nat} (m : Bool) (cc : Cc X W k) (hi : DI τ X W tg it f) (ok : BlkOk X.N X.env.scope scope own) (hg : ∀ (s : Shared) (H : Hp) (C : Addr) (cl : List (Str × Addr)) (fp : List Addr), DG τ (X.blk s H scope (compEnvC scope cl C X.env) fp) tg g ws)
    (ht : ∀ (s : Shared) (H : Hp) (C : Addr) (cl : List (Str × Addr)) (fp : List Addr), DTs τ (X.blk s H scope (compEnvC scope cl C X.env) fp) W0 ifs t) (he : ∀ (s : Shared) (H : Hp) (C : Addr) (cl : List (Str × Addr)) (fp : List Addr), DE τ (X.blk s H scope (compEnvC scope cl C X.env) fp) W0 elt e)
    (hw : ∀ i, i ∈ ws → i ∈ own.map (·.2) := by decide) (hs : ∀ x, foldedSetIterable it X.env x = pure x := by intro _; rfl) : DE τ X W (.ListComp elt [⟨tg, it, ifs, 0⟩] scope pos) (eLc m f g t e (own.map (·.2))) :=
  ⟨PE.mono (pe_lc cc.calm cc.nd hi.r ok (fun s H C cl fp => (hg s H C cl fp).r) (fun s H C cl fp => (ht s H C cl fp).r) (fun s H C cl fp => (he s H C cl fp).r) hs) fun σ H Q h => lc_reads hw h⟩
theorem ds_lc {k : Nat} (i : Nat) {y : Str} {py spos : Pos} (m : Bool) (cc : Cc X W k) (hy : X.N[i]? = some y) (hyl : X.env.scope.names.lookup y = some .local) (hsw : swapsWith (.ListComp elt [⟨tg, it, ifs, 0⟩] scope pos) (some (.Name y py)) spos.line X.env = pure true) (hi : DI τ X W tg it f) (ok : BlkOk X.N X.env.scope scope own)
    (hg : ∀ (s : Shared) (H : Hp) (C : Addr) (cl : List (Str × Addr)) (fp : List Addr), DG τ (X.blk s H scope (compEnvC scope cl C X.env) fp) tg g ws) (ht : ∀ (s : Shared) (H : Hp) (C : Addr) (cl : List (Str × Addr)) (fp : List Addr), DTs τ (X.blk s H scope (compEnvC scope cl C X.env) fp) W0 ifs t)
    (he : ∀ (s : Shared) (H : Hp) (C : Addr) (cl : List (Str × Addr)) (fp : List Addr), DE τ (X.blk s H scope (compEnvC scope cl C X.env) fp) W0 elt e) (hw : ∀ i, i ∈ ws → i ∈ own.map (·.2) := by decide) (hs : ∀ x, foldedSetIterable it X.env x = pure x := by intro _; rfl) :
    DS τ X W (.Assign [.Name y py] (.ListComp elt [⟨tg, it, ifs, 0⟩] scope pos) spos) (sSet i (eLc m f g t e (own.map (·.2)))) :=
  ⟨PS.mono (ps_setLc cc.calm cc.nd hy hyl hsw hi.r ok (fun s H C cl fp => (hg s H C cl fp).r) (fun s H C cl fp => (ht s H C cl fp).r) (fun s H C cl fp => (he s H C cl fp).r) hs) fun E σ H ⟨φ, F, ρ, S, gs, sl, p⟩ =>
    lc_reads (W := W) hw ⟨φ, F, ρ, S, gs, sl, PostS.st gs sl p fun φ1 F1 H1 S1 v x nw1 r1 p1 => PostS.nx nw1.sg ((sl.now nw1).set r1) p1⟩⟩
end
def sRaise (x : Str) : Sv := fun ρ S => .ex ⟨x, []⟩ ρ S
theorem ds_raise {X : Cx} {W : WX} {k : Nat} {e : Expr} {pos : Pos} {x : Str} {C : Addr} (cc : Cc X W k) (hm : X.mg x = some (.ref C)) (he : PMk X e (fun _ H Q => Q (.ref C) none H)) : DS τ X W (.Raise (some e) none pos) (sRaise x) :=
  ⟨PS.mono (ps_raise cc.calm cc.tk he) fun E σ H ⟨φ, F, ρ, S, gs, sl, p⟩ => p φ F H (.refl gs) _ _ ⟨hm, rfl⟩ σ sl⟩
section
variable {P : Program} {w : World} {K : PySem.W.Frag} {mg : Str → Option Value} {base : Heap} {φ φ' : Nat → Addr} {F F' : Addr → Prop} {H H' : Hp} {S S' : Store} {n : Nat}
theorem Now.cut (nw : Now τ K n φ F H φ' F' H' S') : Now τ K n φ F H φ' F' H' (S'.take n) :=
  ⟨nw.ext, nw.sg.take n, by rw [List.length_take]; exact Nat.le_min.mpr ⟨Nat.le_refl _, nw.le⟩, nw.rest, nw.alive, fun i h1 h2 => absurd h2 (by rw [List.length_take]; omega), nw.fnew⟩
theorem slots_start {vs : List V} {xs : List Vl} (r : RepVs K mg φ F H n vs xs) (m : Nat) : Slots K mg φ F H n (vs.map some ++ List.replicate m none) (xs.map some ++ List.replicate m none) := by
  have ln := r.len
  refine ⟨by simp [ln], fun i x h => ?_⟩
  have get : ∀ {vs : List V} {xs : List Vl} {i : Nat} {x : Vl}, RepVs K mg φ F H n vs xs → xs[i]? = some x → ∃ v, vs[i]? = some v ∧ RepV K mg φ F H n v x := fun {vs} => by
    induction vs with
    | nil => intro xs i x r h; cases xs with
      | nil => simp at h
      | cons y ys => exact r.elim
    | cons v vs ih => intro xs i x r h; cases xs with
      | nil => exact r.elim
      | cons y ys =>
        cases i with
        | zero => simp at h; subst h; exact ⟨v, rfl, r.1⟩
        | succ i =>
          obtain ⟨v', h1, h2⟩ := ih r.2 (by simpa using h)
          exact ⟨v', by simpa using h1, h2⟩
  by_cases hi : i < xs.length
  · rw [List.getElem?_append_left (by simpa using hi), List.getElem?_map] at h
    cases q : xs[i]? with
    | none => rw [q] at h; cases h
    | some y =>
      rw [q] at h
      cases h
      obtain ⟨v, h1, h2⟩ := get r q
      exact ⟨v, by rw [List.getElem?_append_left (by simpa [ln] using hi), List.getElem?_map, h1]; rfl, h2⟩
  · rw [List.getElem?_append_right (by simpa using hi), List.getElem?_replicate] at h
    split at h <;> cases h
theorem leave_ok {E : XW} {Q : VK} {v : Vl} {x : V} (g : SG τ K φ F H S) (nw : Now τ K S.length φ F H φ' F' H' S') (r : RepV K mg φ' F' H' S'.length x v) (p : Post τ K mg E S.length φ F H Q (leave S.length v S')) : Q x H' := by
  have small : RepV K mg φ' F' H' S'.length x v → (∀ i, v ≠ .loc i) → (∀ q, v ≠ .lam q) → RepV K mg φ' F' H' (S'.take S.length).length x v := fun r hn hm => by
    cases v with
    | loc i => exact absurd rfl (hn i)
    | lam q => exact absurd rfl (hm q)
    | _ => exact r
  cases v with
  | loc i =>
    unfold leave at p
    obtain ⟨hi, rfl⟩ := r
    by_cases hl : i < S.length
    · simp only [hl, if_true] at p
      exact p _ _ _ nw.cut _ ⟨by rw [List.length_take]; omega, rfl⟩
    · simp only [hl, if_false] at p
      cases q : S'[i]? with
      | none => rw [q] at p; exact p.elim
      | some o =>
        simp only [q] at p
        have hlen : (S'.take S.length).length = S.length := by rw [List.length_take]; exact Nat.min_eq_left nw.le
        have k := nw.cut.keep (p := φ' i) (mo := o) (nw.new i (Nat.not_lt.mp hl) hi) (fun j hj e => by
          rw [hlen] at hj
          have := nw.sg.inj j i (Nat.lt_of_lt_of_le hj nw.le) hi e
          omega) (nw.sg.obj i o q)
        rw [hlen] at k
        exact p _ _ _ k _ ⟨by rw [List.length_append, hlen]; simp, by simp⟩
  | d y => exact p _ _ _ nw.cut _ (small r (fun _ h => nomatch h) fun _ h => nomatch h)
  | glo y => exact p _ _ _ nw.cut _ (small r (fun _ h => nomatch h) fun _ h => nomatch h)
  | ty y => exact p _ _ _ nw.cut _ (small r (fun _ h => nomatch h) fun _ h => nomatch h)
  | tys y => exact p _ _ _ nw.cut _ (small r (fun _ h => nomatch h) fun _ h => nomatch h)
  | scr y => exact p _ _ _ nw.cut _ (small r (fun _ h => nomatch h) fun _ h => nomatch h)
  | xa y => exact p _ _ _ nw.cut _ (small r (fun _ h => nomatch h) fun _ h => nomatch h)
  | lam y => exact (show False from p).elim
  | glos y => exact p _ _ _ nw.cut _ (small r (fun _ h => nomatch h) fun _ h => nomatch h)
abbrev cxD (P : Program) (w : World) (K : PySem.W.Frag) (mg : Str → Option Value) (base : Heap) (N : List Str) (q : Str) (st : Stmt) (f : Addr) (cdv : Value) (B : Around) (fs : List PySem.Env) (s : Shared) (H : Hp) (E : XK) : Cx := cxOf (L2.CX P w) P w K mg base N q (defScope st) f cdv B fs s H E
abbrev wD (E : XK) : WX := fun c d _ H => E c d H
theorem cc_def {N : List Str} {q : Str} {st : Stmt} {f : Addr} {cdv : Value} {B : Around} {fs : List PySem.Env} {s : Shared} {H : Hp} {E : XK} {k : Nat} (nd : N.Nodup) (rm : Room k (B.deeper (envOfC q (defScope st) s.heap.objs.size f cdv))) (gd : B.guards = some []) :
    Cc (cxD P w K mg base N q st f cdv B fs s H E) (wD E) k := ⟨rfl, nd, takes_of rfl rfl rfl rfl, rm, passes_of rfl, gd⟩
theorem fk_fnC {x q : Str} {st : Stmt} {f : Addr} {fd : FuncData} {N ps : List Str} {k : Nat} {b : Sv} (Fu : Fun K x q st f fd) (Sc : FnScope N ps (defScope st))
    (body : ∀ (cdv : Value), fd.code = cdv → ∀ (B : Around) (fs : List PySem.Env) (s : Shared) (H : Hp) (E : XK), Cc (cxD P w K mg base N q st f cdv B fs s H E) (wD E) k → DB τ (cxD P w K mg base N q st f cdv B fs s H E) (wD E) (defBody st) b) :
    Fk P w K mg base (k + 1) f fd ps (spN τ K mg ps.length (fnOf N.length b)) := by
  refine fk_of Fu Sc (fun vs H Q E h => h.1) fun cdv hc B fs s H vs Q E rm gd ⟨hl, φ, F, xs, S, g, r, p⟩ => ⟨_, (body cdv hc B fs s H E (cc_def Sc.nd rm gd)).r, φ, F, _, S, g, slots_start r _, ?_⟩
  have p0 : Post τ K mg E S.length φ F H Q (fnOf N.length b xs S) := p
  unfold fnOf at p0
  rw [← r.len] at p0
  cases e : b (xs.map some ++ List.replicate (N.length - vs.length) none) S with
  | nx ρ S1 => rw [e] at p0; exact fun φ1 F1 H1 nw σ1 sl => p0 _ _ _ nw.cut .non .non
  | ret v S1 => rw [e] at p0; exact fun φ1 F1 H1 nw x rx => leave_ok g nw rx p0
  | ex x ρ S1 => rw [e] at p0; exact fun φ1 F1 H1 nw c od rx σ1 sl => p0 _ _ _ nw.cut c od rx
  | bk ρ S1 => rw [e] at p0; exact (show False from p0).elim
  | ct ρ S1 => rw [e] at p0; exact (show False from p0).elim
  | bad => rw [e] at p0; exact p0
theorem fk_fn {x q : Str} {st : Stmt} {f : Addr} {fd : FuncData} {N ps : List Str} {k : Nat} {b : Sv} (Fu : Fun K x q st f fd) (Sc : FnScope N ps (defScope st))
    (body : ∀ (cdv : Value) (B : Around) (fs : List PySem.Env) (s : Shared) (H : Hp) (E : XK), Cc (cxD P w K mg base N q st f cdv B fs s H E) (wD E) k → DB τ (cxD P w K mg base N q st f cdv B fs s H E) (wD E) (defBody st) b) :
    Fk P w K mg base (k + 1) f fd ps (spN τ K mg ps.length (fnOf N.length b)) := fk_fnC Fu Sc fun cdv _ => body cdv
end
def cutD (xs : List D) (lo hi : Option Int) : List D := (xs.drop (HT.sIx xs.length 0 lo)).take (HT.sIx xs.length xs.length hi - HT.sIx xs.length 0 lo)
abbrev Pv := Env → Store → Res (Option Int)
def pNo : Pv := fun _ S => .ok none S
def pAt (f : Ev) : Pv := fun ρ S => (f ρ S).bind fun v S1 => match view S1 v with
  | some (.int i) => .ok (some i) S1
  | _ => .bad
def slV (m : Bool) (v : Vl) (lo hi : Option Int) (S : Store) : Res Vl := match v with
  | .scr ns => mkL m (cutD (ns.map .int) lo hi) S
  | v => match view S v with
    | some (.list xs) => mkL m (cutD xs lo hi) S
    | some (.tuple xs) => .ok (.d (.tuple (cutD xs lo hi))) S
    | _ => .bad
def eSl (m : Bool) (f : Ev) (lo hi : Pv) : Ev := fun ρ S => (f ρ S).bind fun v S1 => (lo ρ S1).bind fun l S2 => (hi ρ S2).bind fun h S3 => slV m v l h S3
abbrev RepP : (Nat → Addr) → (Addr → Prop) → Hp → Nat → Option Int → Option Int → Prop := fun _ _ _ _ x v => x = v
def RP (τ : Tb) (K : PySem.W.Frag) (mg : Str → Option Value) (W : WX) (f : Pv) : TO := fun σ H Q => ∃ φ F ρ S, SG τ K φ F H S ∧ Slots K mg φ F H S.length σ ρ ∧ PostG τ K mg RepP (fun c od H' => W c od σ H') S.length φ F H Q (f ρ S)
structure DP (τ : Tb) (X : Cx) (W : WX) (e : Option Expr) (f : Pv) : Prop where
  r : PO X e (RP τ X.K X.mg W f)
theorem PO.mono {X : Cx} {e : Option Expr} {t t' : TO} (h : PO X e t) (m : ∀ σ H Q, t' σ H Q → t σ H Q) : PO X e t' := ⟨fun pins s σ H Q I q => h.run pins s σ H Q I (m _ _ _ q)⟩
section
variable {K : PySem.W.Frag} {mg : Str → Option Value} {φ : Nat → Addr} {F : Addr → Prop} {H : Hp} {S : Store}
theorem FzAll.cut {xs : List V} {ds : List D} (h : FzAll K F H xs ds) (lo hi : Option Int) : FzAll K F H (cutV xs lo hi) (cutD ds lo hi) := by
  unfold cutV cutD
  rw [h.len]
  exact (h.drop _).take _
theorem cutD_whole {ds : List D} {lo hi : Option Int} (h : HT.sIx ds.length 0 lo = 0 ∧ HT.sIx ds.length ds.length hi = ds.length) : cutD ds lo hi = ds := by
  unfold cutD
  rw [h.1, h.2]
  simp
theorem fz_ints : ∀ ns : List Int, FzAll K F H (ns.map V.int) (ns.map .int)
  | [] => .nil
  | n :: ns => .cons (.int n) (fz_ints ns)
end
section
variable {X : Cx} {W : WX} {e : Expr} {lo hi : Option Expr} {f : Ev} {fl fh : Pv} {pos p2 : Pos}
theorem dp_no : DP τ X W none pNo := ⟨PO.mono po_none fun σ H Q ⟨φ, F, ρ, S, g, sl, p⟩ => p _ _ _ (.refl g) _ rfl⟩
theorem dp_at (h : DE τ X W e f) : DP τ X W (some e) (pAt f) := ⟨PO.mono (po_some h.r) fun σ H Q ⟨φ, F, ρ, S, g, sl, p⟩ => ⟨φ, F, ρ, S, g, sl, PostG.bind g p fun φ1 F1 H1 S1 v x nw1 r1 p1 => by
  split at p1
  · rename_i i q
    exact ⟨i, ob_of nw1.sg r1 q, p1 _ _ _ (.refl nw1.sg) _ rfl⟩
  · exact p1.elim⟩⟩
theorem de_sl (m : Bool) (he : DE τ X W e f) (hl : DP τ X W lo fl) (hh : DP τ X W hi fh) : DE τ X W (.Subscript e (.Slice lo hi none p2) pos) (eSl m f fl fh) := ⟨PE.mono (pe_slice (sl_list.or sl_tupA) he.r hl.r hh.r) fun σ H Q ⟨φ, F, ρ, S, g, sl, p⟩ =>
  ⟨φ, F, ρ, S, g, sl, PostG.bind g p fun φ1 F1 H1 S1 v x nw1 r1 p1 => ⟨φ1, F1, ρ, S1, nw1.sg, sl.now nw1, PostG.bind nw1.sg p1 fun φ2 F2 H2 S2 l l' nw2 r2 p2 => by
    have r2 : l' = l := r2
    subst r2
    refine ⟨φ2, F2, ρ, S2, nw2.sg, (sl.now nw1).now nw2, PostG.bind nw2.sg p2 fun φ3 F3 H3 S3 h h' nw3 r3 p3 => ?_⟩
    have r3 : h' = h := r3
    subst r3
    have rv := (r1.now nw2).now nw3
    unfold slV at p3
    split at p3
    · rename_i ns
      obtain ⟨a, rfl, q⟩ := rv
      have sq : SqL X.K H3 a (ns.map V.int) := q.elim (fun ⟨_, o, z⟩ => .inl (.inr ⟨o, z⟩)) fun z => .inr z
      exact .inl ⟨a, _, rfl, sq, Post.newL nw3.sg ((fz_ints ns).cut _ _) p3⟩
    · split at p3
      · rename_i ds q
        obtain ⟨a, xs, rfl, h1, h2⟩ := ob_of nw3.sg rv q
        exact .inl ⟨a, xs, rfl, .inl (.inl h1), Post.newL nw3.sg (h2.cut _ _) p3⟩
      · rename_i ds q
        obtain ⟨a, xs, rfl, h1, h2⟩ := ob_of nw3.sg rv q
        refine .inr ⟨a, xs, rfl, h1.sq, fun hw => ?_, fun _ => Post.newT nw3.sg (h2.cut _ _) p3⟩
        rw [h2.len] at hw
        rw [cutD_whole hw] at p3
        exact Post.ok nw3.sg p3 (.tup h1 h2)
      · exact p3.elim⟩⟩⟩
end
def fRepr : Fn := fun vs S => match vs with
  | [v] => match view S v with
    | some d => if (shal d && d.showable && decide (d.shown.length ≤ sizeLine)) = true then .ok (.d (.str d.shown)) S else .bad
    | none => .bad
  | _ => .bad
def rRepr (K : PySem.W.Frag) : List V → Hp → VK → Prop := fun vs H Q => ∃ x d, vs = [x] ∧ Dp K H x d ∧ shal d = true ∧ d.showable = true ∧ d.shown.length ≤ sizeLine ∧ Q (.str d.shown) H
theorem ok_repr {K : PySem.W.Frag} {mg : Str → Option Value} : CallOk τ K mg (rRepr K) fRepr := by
  intro φ F H S xs vs Q W g r p
  unfold fRepr at p
  split at p
  · rename_i v
    obtain ⟨x, rfl, r1⟩ := reps1 r
    cases e : view S v with
    | none => rw [e] at p; exact p.elim
    | some d =>
      simp only [e] at p
      by_cases hl : (shal d && d.showable && decide (d.shown.length ≤ sizeLine)) = true
      · rw [if_pos hl] at p
        have h2 : (shal d = true ∧ d.showable = true) ∧ d.shown.length ≤ sizeLine := by simpa using hl
        exact ⟨x, d, rfl, (ob_of g r1 e).dp (shal_p h2.1.1).1, h2.1.1, h2.1.2, h2.2, Post.ok g p (.str _)⟩
      · rw [if_neg hl] at p; exact p.elim
  · exact p.elim
mutual
theorem plain_noDict : ∀ d : D, d.plain = true → d.hasDict = false
  | .none, _ => by simp [PyData.hasDict]
  | .bool _, _ => by simp [PyData.hasDict]
  | .int _, _ => by simp [PyData.hasDict]
  | .str _, _ => by simp [PyData.hasDict]
  | .list xs, h => by
    simp only [PyData.hasDict]
    exact plain_noDicts xs (by simpa [PyData.plain] using h)
  | .tuple xs, h => by
    simp only [PyData.hasDict]
    exact plain_noDicts xs (by simpa [PyData.plain] using h)
  | .dict _, h => by simp [PyData.plain] at h
theorem plain_noDicts : ∀ ds : List D, PyData.plainAll ds = true → PyData.hasDictAll ds = false
  | [], _ => by simp [PyData.hasDictAll]
  | x :: xs, h => by
    have h2 : x.plain = true ∧ PyData.plainAll xs = true := by simpa [PyData.plainAll] using h
    simp only [PyData.hasDictAll, plain_noDict x h2.1, plain_noDicts xs h2.2, Bool.or_self]
end
theorem call_reprX {X : Cx} (hg : X.A.guards = some []) (hu : X.A.units + 64 < cLine) : CallR X (.builtin "repr") (rRepr X.K) := by
  intro pins s σ H xs us Q I r h
  obtain ⟨x, d, rfl, dp, hs, hsh, hz, q⟩ := h
  obtain ⟨u, rfl, ru⟩ := vals1 r
  obtain ⟨as, rd⟩ := Dp.reads I d x u dp ru
  have fin : ∀ (h' : Heap) (t : Tok) (tk : Nat), (∀ b o, s.heap.get? b = some o → h'.get? b = some o) → EP X pins σ Q (.str d.shown t) { s with heap := h', toks := tk } := fun h' t tk hk => ⟨.str d.shown, H, I.kept hk, ⟨_, rfl⟩, q⟩
  have hd := (shal_p hs).2
  have nd := plain_noDict d (shal_p hs).1
  cases rd with
  | none => exact PySem.P.repr_of_none (fin s.heap _ _ fun _ _ z => z)
  | bool b =>
    refine PySem.P.repr_of_bool ?_
    have := fin s.heap s.toks (s.toks + 1) fun _ _ z => z
    cases b <;> exact this
  | int i t =>
    have hi : i.natAbs.log2 < 1920 := by simpa [PyData.showable] using hsh
    exact PySem.P.repr_of_int hi (fin s.heap _ _ fun _ _ z => z)
  | str y t => exact PySem.P.repr_of_str (fin s.heap _ _ fun _ _ z => z) hz
  | list h1 h2 h3 h4 => exact repr_of_reads' (.list h1 h2 h3 h4) hsh (fun z => by rw [nd] at z; cases z) hg (by omega) (fun _ _ e => e) (fun h' u tk hk => fin h' u tk hk) hz
  | tuple h1 h2 h3 h4 => exact repr_of_reads' (.tuple h1 h2 h3 h4) hsh (fun z => by rw [nd] at z; cases z) hg (by omega) (fun _ _ e => e) (fun h' u tk hk => fin h' u tk hk) hz
  | dict => rw [PyData.hasDict] at nd; cases nd
theorem walk_fk {l : PySem.W.OpenLaw} {n k : Nat} {q : Program} {loose : List Str} {XP : (Str → Option Value) → Heap → Prop} {YP : World → Heap → Prop} {d : DefRec} {K : Params → PySem.W.Frag} {x : Str} {g : Fn}
    (hn : l.most = some n) (hn2 : n ≤ sizeLine) (noDef : d.params.defaults = []) (room : Room k callerA) (hY : ∀ (w : World) (h : Heap), YP w h → (K w.params).In h)
    (F : ∀ (w : World) (mg : Str → Option Value) (fa : Addr) (h : Heap), (K w.params).In h → h.Ns mainGlobals mg → mg d.name = some (.ref fa) → ∃ fd : FuncData, (∀ (s : Shared) (u : Value), BindsTo s fd ⟨[u], []⟩ [(x, u)]) ∧
        ∀ base : Heap, (K w.params).In base → base.Ns mainGlobals mg → Fk l.prog w (K w.params) mg base k fa fd [x] (spN [] (K w.params) mg 1 g))
    (law : ∀ ns : List Int, ns.length ≤ n → ∃ S, g [.scr ns] [] = .ok (.d (.bool true)) S) : PySem.W.WalkO q loose XP YP l.row.toRowW d [] (fun f vs => PySem.call f vs) := by
  refine Att.attach_call hn noDef fun w s₀ s₁ mg mb fa o pm cd doc a vs ns G Y ho hd hcd hmg hobj hints hlen hg => ?_
  have inK := hY w _ Y
  obtain ⟨fd, bind, hF⟩ := F w mg fa _ inK G.T.g hmg
  obtain ⟨S, e⟩ := law ns hlen
  have rv := vals_ints hints
  have at_ := fun {H : Hp} => law_at (H := H) inK G.T.g G.T.b G.T.builtins G.T.nolimit hg hobj (fun es ep z => by cases z) room hF bind
  have fin : ∀ {H : Hp} {F : Addr → Prop}, SG [] (K w.params) (fun _ => 0) F H [] → RepV (K w.params) mg (fun _ => 0) F H 0 (.ref a) (.scr ns) → spN [] (K w.params) mg 1 g [.ref a] H (fun v _ => v = .bl true) fun _ _ _ => False := fun {H F} sg r =>
    ⟨rfl, fun _ => 0, F, [.scr ns], [], sg, ⟨r, trivial⟩, by
      rw [e]
      intro φ' F' H' _ v r
      cases r
      rfl⟩
  cases hk : (K w.params).lookup a with
  | some ob =>
    have e1 := inK a ob hk
    rw [hobj] at e1
    cases e1
    refine at_ (H := fun _ => none) (fun b u z => by have z' : (none : Option HO) = some u := z; cases z') (fun b z => absurd rfl z) (fun z => absurd rfl z) (fin (F := fun _ => False) ⟨fun _ z => z.elim, fun i o z => by simp at z, fun i j z => by simp at z, fun _ z => by simp at z, fun _ z => by simp at z, fun _ _ z => (by cases z), fun _ _ _ z => (by cases z)⟩ ⟨a, rfl, .inr ⟨_, vs.toArray, _, hk, rfl, rfl, rfl, ?_, by simpa using rv⟩⟩)
    rw [List.size_toArray, hints.length]
    exact Nat.le_trans hlen hn2
  | none =>
    refine at_ (H := scriptH a { cls := .type "list", data := .seq vs.toArray } ns) (fun b u z => ?_) (fun b z => ?_) (fun _ => ⟨hk, _, scriptH_at⟩) (fin (F := fun b => b = a) ⟨fun b z => by rw [show b = a from z, scriptH_at]; simp, fun i o z => by simp at z, fun i j z => by simp at z, fun _ z => by simp at z, fun _ z => by simp at z, fun b ps z => by (by_cases e : b = a; (rw [e, scriptH_at] at z; cases z); (rw [show scriptH a _ ns b = none from if_neg e] at z; cases z)), fun b c q z => by (by_cases e : b = a; (exact e); (rw [show scriptH a _ ns b = none from if_neg e] at z; cases z))⟩ ⟨a, rfl, .inl ⟨rfl, _, scriptH_at⟩⟩)
    · by_cases hb : b = a
      · subst hb
        rw [scriptH_at] at z
        cases z
        exact ⟨hobj, by rw [List.length_map]; exact Nat.le_trans hlen hn2, vs, _, rv, hobj⟩
      · rw [show scriptH a _ ns b = none from if_neg hb] at z
        cases z
    · by_cases hb : b = a
      · exact hb
      · exact absurd (if_neg hb) z
structure DefF (K : PySem.W.Frag) (mg : Str → Option Value) (x y : Str) (st : Stmt) : Prop where
  ex : ∃ (f : Addr) (oc : Value) (od : Option Addr) (kV doc pm : Value) (an : Option Addr) (cdv ct : Value) (osl : Array (Option Value)), mg x = some (.ref f) ∧
    K.lookup f = some ⟨oc, od, .func (PySem.W.fnOf y y (defArgs st) (defBody st) (defScope st) .none kV doc pm an cdv ct), osl⟩ ∧ PySem.W.codeIn K cdv y = true ∧ PySem.W.keepIn K (.ref f) = true
theorem DefF.mk' {K : PySem.W.Frag} {mg : Str → Option Value} {x y : Str} {st : Stmt} {h : Heap} {f : Addr} {oc : Value} {od : Option Addr} {kV doc pm : Value} {an : Option Addr} {cdv ct : Value} {osl : Array (Option Value)} (X : K.In h) (G : h.Ns mainGlobals mg) (a : PySem.W.nsIn K mainGlobals x = some (some (.ref f)))
    (l : K.lookup f = some ⟨oc, od, .func (PySem.W.fnOf y y (defArgs st) (defBody st) (defScope st) .none kV doc pm an cdv ct), osl⟩) (c : PySem.W.codeIn K cdv y = true) (k : PySem.W.keepIn K (.ref f) = true) : DefF K mg x y st :=
  ⟨f, oc, od, kV, doc, pm, an, cdv, ct, osl, PySem.W.mg_of X G a, l, c, k⟩
structure ExF (K : PySem.W.Frag) (mg : Str → Option Value) (x : Str) : Prop where
  ex : ∃ C : Addr, mg x = some (.ref C) ∧ PySem.W.excIn K C He.veBase "ValueError.__new__" = true ∧ PySem.W.keepIn K (.ref C) = true ∧ PySem.W.subIn K (.ref C) (.type "BaseException") = some true ∧ PySem.W.typeIn K (.ref C) = some (.type "type")
theorem ExF.mk' {K : PySem.W.Frag} {mg : Str → Option Value} {x : Str} {h : Heap} {C : Addr} (X : K.In h) (G : h.Ns mainGlobals mg) (a : PySem.W.nsIn K mainGlobals x = some (some (.ref C))) (b : PySem.W.excIn K C He.veBase "ValueError.__new__" = true) (c : PySem.W.keepIn K (.ref C) = true)
    (d : PySem.W.subIn K (.ref C) (.type "BaseException") = some true) (e : PySem.W.typeIn K (.ref C) = some (.type "type")) : ExF K mg x := ⟨C, PySem.W.mg_of X G a, b, c, d, e⟩
structure DefOk (τ : Tb) (P : Program) (w : World) (K : PySem.W.Frag) (mg : Str → Option Value) (base : Heap) (k n : Nat) (x : Str) (g : Fn) : Prop where
  ex : ∃ (f : Addr) (fd : FuncData) (ps : List Str), Fk P w K mg base k f fd ps (spN τ K mg n g) ∧ mg x = some (.ref f) ∧ PySem.W.keepIn K (.ref f) = true ∧ Binds K fd ps []
section
variable {P : Program} {w : World} {K : PySem.W.Frag} {mg : Str → Option Value} {base : Heap}
theorem def_ok {x y : Str} {st : Stmt} {N ps : List Str} {k n : Nat} {b : Sv} (Fu : DefF K mg x y st) (Sc : FnScope N ps (defScope st)) (hn : ps.length = n)
    (bi : ∀ (kV doc pm : Value) (an : Option Addr) (cdv ct : Value) (us : List Value), us.length = ps.length → bindArgs (PySem.W.fnOf y y (defArgs st) (defBody st) (defScope st) .none kV doc pm an cdv ct) ⟨us, []⟩ = pure (ps.zip us))
    (body : ∀ (f : Addr) (cdv : Value) (B : Around) (fs : List PySem.Env) (s : Shared) (H : Hp) (E : XK), Cc (cxD P w K mg base N y st f cdv B fs s H E) (wD E) k → DB τ (cxD P w K mg base N y st f cdv B fs s H E) (wD E) (defBody st) b) :
    DefOk τ P w K mg base (k + 1) n x (fnOf N.length b) := by
  obtain ⟨f, oc, od, kV, doc, pm, an, cdv, ct, osl, h1, h2, h3, h4⟩ := Fu.ex
  have F := fun_mk (st := st) h2 h3 h4
  subst hn
  exact ⟨f, _, ps, fk_fn F Sc (body f), h1, h4, F.binds bi⟩
end
section
variable {X : Cx} {W : WX} {k j n : Nat} {a b c e : Expr} {es : List Expr} {fs : Av} {g : Fn} {pos p : Pos} {x : Str}
theorem de_callD (G : DefOk τ X.prog X.w X.K X.mg X.base k n x g) (cc : Cc X W j) (hj : k ≤ j) (hg : Gl X x) (ha : DA τ X W (e :: es) fs) (hdb : (x == ("__debug__" : Str)) = false := by decide) (he : starEach (e :: es) X.env = (false, eval e X.env) :: starEach es X.env := by rfl)
    (hpl : (backTo pos (starEach es X.env)).any (·.1) = false := by rfl) : DE τ X W (.Call (.Name x p) (e :: es) [] pos) (eCallN n g fs) := by
  obtain ⟨f, fd, ps, h1, h2, h3, h4⟩ := G.ex
  exact de_call cc h1 hj hg h2 h3 h4 ha hdb he hpl
theorem de_callD0 (G : DefOk τ X.prog X.w X.K X.mg X.base k n x g) (cc : Cc X W j) (hj : k ≤ j) (hg : Gl X x) (hdb : (x == ("__debug__" : Str)) = false := by decide) : DE τ X W (.Call (.Name x p) [] [] pos) (eCall0 n g) := by
  obtain ⟨f, fd, ps, h1, h2, h3, h4⟩ := G.ex
  exact de_call0 cc h1 hj hg h2 h3 h4 hdb
theorem pmk0 {C : Addr} {bmB : List Value} {B newId initId : String} (F : ExcBaseFacts B newId initId bmB) (q : PySem.W.excIn X.K C bmB newId = true) (gC : X.mg x = some (.ref C)) (kC : PySem.W.keepIn X.K (.ref C) = true) (r : Raises X (.ref C)) (hg : Gl X x)
    (hdb : (x == ("__debug__" : Str)) = false := by decide) : PMk X (.Call (.Name x p) [] [] pos) (fun _ H Q => Q (.ref C) none H) := by
  intro pins s σ H Q I h
  refine wpAny_Call_Name_kw (ld_glob I hg gC ?_ hdb)
  refine PySem.W.callWith_K0 I.kIn kC ?_
  show wpAny _ _ (call (.ref C) []) _ _ _
  obtain ⟨bm, N, nm, qn, bs, hdct, sn, sub, ab, col, dd, k0, k1, k2, k3, k5, mN, hC, hN, hni, T⟩ := exc_obj I.kIn q
  refine wpAny_call_exc_subT F T hC hN hni (fun h' e hm => ?_) (by show 0 ≤ sizeLine; rw [sizeLine_eq]; omega)
  exact mk_of I hm r h (I.hok.gone hm.new)
theorem ds_raise0 {pos2 : Pos} (cc : Cc X W j) (Ex : ExF X.K X.mg x) (hg : Gl X x) (hdb : (x == ("__debug__" : Str)) = false := by decide) : DS τ X W (.Raise (some (.Call (.Name x p) [] [] pos)) none pos2) (sRaise x) := by
  obtain ⟨C, h1, h2, h3, h4, h5⟩ := Ex.ex
  exact ds_raise cc h1 (pmk0 PySem.F.excBase_ValueError h2 h1 h3 (raises_own h4 h5) hg hdb)
end
theorem Cc.hu {X : Cx} {W : WX} {k : Nat} (c : Cc X W k) : X.A.units + 64 < cLine := by
  have := c.rm.units
  omega
structure IntF (mg : Str → Option Value) (x : Str) (i : Int) : Prop where
  ex : ∃ t, mg x = some (.int i t)
structure StrF (mg : Str → Option Value) (x : Str) (z : Str) : Prop where
  ex : ∃ t, mg x = some (.str z t)
section
variable {K : PySem.W.Frag} {mg : Str → Option Value} {h : Heap} {x : Str}
theorem IntF.mk' {i : Int} {t : Tok} (X : K.In h) (G : h.Ns mainGlobals mg) (a : PySem.W.nsIn K mainGlobals x = some (some (.int i t))) : IntF mg x i := ⟨t, PySem.W.mg_of X G a⟩
theorem StrF.mk' {i : Str} {t : Tok} (X : K.In h) (G : h.Ns mainGlobals mg) (a : PySem.W.nsIn K mainGlobals x = some (some (.str i t))) : StrF mg x i := ⟨t, PySem.W.mg_of X G a⟩
end
theorem de_conI {X : Cx} {W : WX} {x : Str} {i : Int} {pos : Pos} (C : IntF X.mg x i) (hg : Gl X x) (hd : (x == ("__debug__" : Str)) = false := by decide) : DE τ X W (.Name x pos) (eD (.int i)) := by
  obtain ⟨t, e⟩ := C.ex
  exact de_con (v := .int i) hg e ⟨t, rfl⟩ (fun _ _ => .int i) hd
theorem de_conS {X : Cx} {W : WX} {x : Str} {i : Str} {pos : Pos} (C : StrF X.mg x i) (hg : Gl X x) (hd : (x == ("__debug__" : Str)) = false := by decide) : DE τ X W (.Name x pos) (eD (.str i)) := by
  obtain ⟨t, e⟩ := C.ex
  exact de_con (v := .str i) hg e ⟨t, rfl⟩ (fun _ _ => .str i) hd
theorem law_end {P : Program} {w : World} {K : PySem.W.Frag} {mg : Str → Option Value} {st : Stmt} {N : List Str} {fa : Addr} {x y : Str} {k : Nat} {b : Sv} {p : Str} (Fu : DefF K mg x y st) (hfa : mg x = some (.ref fa)) (Sc : FnScope N [p] (defScope st))
    (bi : ∀ (kV doc pm : Value) (an : Option Addr) (cdv ct : Value) (s : Shared) (v : Value), BindsTo s (PySem.W.fnOf y y (defArgs st) (defBody st) (defScope st) .none kV doc pm an cdv ct) ⟨[v], []⟩ [(p, v)])
    (body : ∀ (base : Heap) (f : Addr) (cdv : Value) (B : Around) (fs : List PySem.Env) (s : Shared) (H : Hp) (E : XK), Cc (cxD P w K mg base N y st f cdv B fs s H E) (wD E) k → DB τ (cxD P w K mg base N y st f cdv B fs s H E) (wD E) (defBody st) b) :
    ∃ fd : FuncData, (∀ (s : Shared) (u : Value), BindsTo s fd ⟨[u], []⟩ [(p, u)]) ∧ ∀ base : Heap, K.In base → base.Ns mainGlobals mg → Fk P w K mg base (k + 1) fa fd [p] (spN τ K mg 1 (fnOf N.length b)) := by
  obtain ⟨f, oc, od, kV, doc, pm, an, cdv, ct, osl, h1, h2, h3, h4⟩ := Fu.ex
  have e := hfa.symm.trans h1
  cases e
  exact ⟨_, bi kV doc pm an cdv ct, fun base _ _ => fk_fn (fun_mk (st := st) h2 h3 h4) Sc (body base fa)⟩
theorem bb_len : bootBuiltins "len" = some (.builtin "len") := by decide +kernel
theorem bb_abs : bootBuiltins "abs" = some (.builtin "abs") := by decide +kernel
theorem bb_all : bootBuiltins "all" = some (.builtin "all") := by decide +kernel
theorem bb_any : bootBuiltins "any" = some (.builtin "any") := by decide +kernel
theorem bb_min : bootBuiltins "min" = some (.builtin "min") := by decide +kernel
theorem bb_max : bootBuiltins "max" = some (.builtin "max") := by decide +kernel
theorem bb_sum : bootBuiltins "sum" = some (.builtin "sum") := by decide +kernel
theorem bb_sorted : bootBuiltins "sorted" = some (.builtin "sorted") := by decide +kernel
theorem bb_repr : bootBuiltins "repr" = some (.builtin "repr") := by decide +kernel
theorem bb_isinstance : bootBuiltins "isinstance" = some (.builtin "isinstance") := by decide +kernel
theorem bb_enumerate : bootBuiltins "enumerate" = some (.type "enumerate") := by decide +kernel
theorem bb_zip : bootBuiltins "zip" = some (.type "zip") := by decide +kernel
theorem bb_range : bootBuiltins "range" = some (.type "range") := by decide +kernel
theorem bb_int : bootBuiltins "int" = some (.type "int") := by decide +kernel
theorem bb_bool : bootBuiltins "bool" = some (.type "bool") := by decide +kernel
theorem bb_str : bootBuiltins "str" = some (.type "str") := by decide +kernel
theorem bb_list : bootBuiltins "list" = some (.type "list") := by decide +kernel
theorem bb_tuple : bootBuiltins "tuple" = some (.type "tuple") := by decide +kernel
theorem bb_dict : bootBuiltins "dict" = some (.type "dict") := by decide +kernel
theorem bb_set : bootBuiltins "set" = some (.type "set") := by decide +kernel
section
variable {ρ : Env} {S : Store} {i n : Nat} {m : Bool} {fa fb fc f g : Ev} {ga gb t : Tv} {fs : Av} {o o' : Vl → Vl → Store → Res Vl} {u : Vl → Store → Res Vl} {k : Fn} {sa sb : Sv} {it : Iv} {tg : Tg}
@[simp] theorem ap_eVar : eVar i ρ S = match ρ[i]? with
  | some (some v) => .ok v S
  | _ => .bad := rfl
@[simp] theorem ap_eD {x : D} : eD x ρ S = .ok (.d x) S := rfl
@[simp] theorem ap_eTy {x : Ty} : eTy x ρ S = .ok (.ty x) S := rfl
@[simp] theorem ap_eGlo {x : Str} : eGlo x ρ S = .ok (.glo x) S := rfl
@[simp] theorem ap_eBin : eBin o fa fb ρ S = (fa ρ S).bind fun a S1 => (fb ρ S1).bind fun b S2 => o a b S2 := rfl
@[simp] theorem ap_eUn : eUn u fa ρ S = (fa ρ S).bind fun a S1 => u a S1 := rfl
@[simp] theorem ap_aNil : aNil ρ S = .ok [] S := rfl
@[simp] theorem ap_aCons : aCons f fs ρ S = (f ρ S).bind fun v S1 => (fs ρ S1).bind fun vs S2 => .ok (v :: vs) S2 := rfl
@[simp] theorem ap_eFrz : eFrz f ρ S = (f ρ S).bind fun v S1 => (fr v S1).bind fun d S2 => .ok (.d d) S2 := rfl
@[simp] theorem ap_eTup : eTup fs ρ S = (fs ρ S).bind fun vs S1 => (frs vs S1).bind fun ds S2 => if ds.length ≤ 1000 then .ok (.d (.tuple ds)) S2 else .bad := rfl
@[simp] theorem ap_eLst : eLst m fs ρ S = (fs ρ S).bind fun vs S1 => (frs vs S1).bind fun ds S2 => if ds.length ≤ 1000 then mkL m ds S2 else .bad := rfl
@[simp] theorem ap_eCall : eCall k fs ρ S = (fs ρ S).bind fun vs S1 => k vs S1 := rfl
@[simp] theorem ap_eCallN : eCallN n k fs ρ S = (fs ρ S).bind fun vs S1 => if vs.length = n then k vs S1 else .bad := rfl
@[simp] theorem ap_eCall0 : eCall0 n k ρ S = if n = 0 then k [] S else .bad := rfl
@[simp] theorem ap_eIf : eIf t fa fb ρ S = (t ρ S).bind fun b S1 => if b = true then fa ρ S1 else fb ρ S1 := rfl
@[simp] theorem ap_eAnd : eAnd fa fb ρ S = (fa ρ S).bind fun v S1 => match v with
  | .d (.bool c) => if c = true then fb ρ S1 else .ok (.d (.bool false)) S1
  | _ => .bad := rfl
@[simp] theorem ap_eOr : eOr fa fb ρ S = (fa ρ S).bind fun v S1 => match v with
  | .d (.bool c) => if c = true then .ok (.d (.bool true)) S1 else fb ρ S1
  | _ => .bad := rfl
@[simp] theorem ap_eNot : eNot fa ρ S = (fa ρ S).bind fun v S1 => match v with
  | .d (.bool c) => .ok (.d (.bool !c)) S1
  | _ => .bad := rfl
@[simp] theorem ap_tOf : tOf f ρ S = (f ρ S).bind fun v S1 => match v with
  | .d (.bool c) => .ok c S1
  | _ => .bad := rfl
@[simp] theorem ap_tAnd : tAnd ga gb ρ S = (ga ρ S).bind fun c S1 => if c = true then gb ρ S1 else .ok false S1 := rfl
@[simp] theorem ap_tOr : tOr ga gb ρ S = (ga ρ S).bind fun c S1 => if c = true then .ok true S1 else gb ρ S1 := rfl
@[simp] theorem ap_tNot : tNot ga ρ S = (ga ρ S).bind fun c S1 => .ok (!c) S1 := rfl
@[simp] theorem ap_tYesD : tYesD ρ S = .ok true S := rfl
@[simp] theorem ap_eChain : eChain o o' fa fb fc ρ S = (fa ρ S).bind fun a S1 => (fb ρ S1).bind fun b S2 => (o a b S2).bind fun z S3 => match z with
  | .d (.bool k) => if k = true then (fc ρ S3).bind fun c S4 => o' b c S4 else .ok (.d (.bool false)) S3
  | _ => .bad := rfl
@[simp] theorem ap_pNo : pNo ρ S = .ok none S := rfl
@[simp] theorem ap_pAt : pAt f ρ S = (f ρ S).bind fun v S1 => match view S1 v with
  | some (.int i) => .ok (some i) S1
  | _ => .bad := rfl
@[simp] theorem ap_eSl {l h : Pv} : eSl m f l h ρ S = (f ρ S).bind fun v S1 => (l ρ S1).bind fun l S2 => (h ρ S2).bind fun h S3 => slV m v l h S3 := rfl
@[simp] theorem ap_eLc {vs : List Nat} : eLc m it tg t f vs ρ S = (it ρ S).bind fun ds S1 => (lcL tg t f (wipeE ρ vs) ds [] S1).bind fun acc S2 => mkL m acc S2 := rfl
@[simp] theorem ap_iSeq : iSeq f ρ S = (f ρ S).bind fun v S1 => (fr v S1).bind fun d S2 => match seqOf d with
  | some ds => .ok ds S2
  | none => .bad := rfl
@[simp] theorem ap_sNil : sNil ρ S = .nx ρ S := rfl
@[simp] theorem ap_sCons : sCons sa sb ρ S = (sa ρ S).seq sb := rfl
@[simp] theorem ap_sExpr : sExpr f ρ S = (f ρ S).st ρ fun _ S1 => .nx ρ S1 := rfl
@[simp] theorem ap_sAsg : sAsg tg f ρ S = (f ρ S).st ρ fun v S1 => match tg v ρ with
  | some ρ1 => .nx ρ1 S1
  | none => .bad := rfl
@[simp] theorem ap_sSet : sSet i f ρ S = (f ρ S).st ρ fun v S1 => .nx (ρ.set i (some v)) S1 := rfl
@[simp] theorem ap_sPar {gs : List Tg} : sPar gs fs ρ S = (fs ρ S).st ρ fun vs S1 => match gAll gs vs ρ with
  | some ρ1 => .nx ρ1 S1
  | none => .bad := rfl
@[simp] theorem ap_sRet : sRet f ρ S = (f ρ S).st ρ fun v S1 => .ret v S1 := rfl
@[simp] theorem ap_sRetN : sRetN ρ S = .ret (.d .none) S := rfl
@[simp] theorem ap_sIf : sIf t sa sb ρ S = (t ρ S).st ρ fun x S1 => if x = true then sa ρ S1 else sb ρ S1 := rfl
@[simp] theorem ap_sPut : sPut fa fb fc ρ S = (fc ρ S).st ρ fun v S1 => (fr v S1).st ρ fun d S2 => (fa ρ S2).st ρ fun o S3 => (fb ρ S3).st ρ fun i S4 => match o, view S4 i with
  | .loc n, some (.int k) => match S4[n]? with
    | some (.lst xs) => match ixN xs.length k with
      | some j => .nx ρ (S4.set n (.lst (xs.set j d)))
      | none => .bad
    | _ => .bad
  | _, _ => .bad := rfl
@[simp] theorem ap_sBreak : sBreak ρ S = .bk ρ S := rfl
@[simp] theorem ap_sCont : sCont ρ S = .ct ρ S := rfl
@[simp] theorem ap_sFor : sFor it tg sb ρ S = (it ρ S).st ρ fun xs S1 => forL tg sb xs ρ S1 := rfl
@[simp] theorem ap_sRaise {x : Str} : sRaise x ρ S = .ex ⟨x, []⟩ ρ S := rfl
@[simp] theorem ap_gN {v : Vl} : gN i v ρ = some (ρ.set i (some v)) := rfl
@[simp] theorem ap_gAll0 : gAll [] [] ρ = some ρ := rfl
@[simp] theorem ap_gAll1 {gs : List Tg} {v : Vl} {vs : List Vl} : gAll (tg :: gs) (v :: vs) ρ = match tg v ρ with
  | some ρ1 => gAll gs vs ρ1
  | none => none := rfl
@[simp] theorem ap_gT {gs : List Tg} {ds : List D} : gT gs (.d (.tuple ds)) ρ = gAll gs (ds.map Vl.d) ρ := rfl
@[simp] theorem ap_mkF {ds : List D} : mkL false ds S = .ok (.d (.list ds)) S := rfl
@[simp] theorem ap_mkT {ds : List D} : mkL true ds S = .ok (.loc S.length) (S ++ [.lst ds]) := rfl
@[simp] theorem ap_forL0 : forL tg sb [] ρ S = .nx ρ S := rfl
theorem ap_forL1 {x : D} {xs : List D} : forL tg sb (x :: xs) ρ S = match tg (.d x) ρ with
    | none => .bad
    | some ρ1 => match sb ρ1 S with
      | .nx ρ2 S2 => forL tg sb xs ρ2 S2
      | .ct ρ2 S2 => forL tg sb xs ρ2 S2
      | .bk ρ2 S2 => .nx ρ2 S2
      | r => r := rfl
@[simp] theorem ap_lcL0 {acc : List D} : lcL tg t f ρ [] acc S = .ok acc S := rfl
theorem ap_fnOf {vs : List Vl} : fnOf n sb vs S = match sb (vs.map some ++ List.replicate (n - vs.length) none) S with
  | .ret v S1 => leave S.length v S1
  | .nx _ S1 => .ok (.d .none) (S1.take S.length)
  | .ex e _ S1 => .ex e (S1.take S.length)
  | _ => .bad := rfl
@[simp] theorem ap_leave {x : D} : leave n (.d x) S = .ok (.d x) (S.take n) := rfl
@[simp] theorem shal_int {i : Int} : shal (.int i) = true := rfl
@[simp] theorem shal_bool {b : Bool} : shal (.bool b) = true := rfl
@[simp] theorem shal_none : shal .none = true := rfl
@[simp] theorem shal_str {z : Str} : shal (.str z) = true := rfl
end
theorem forL_inv {tg : Tg} {sb : Sv} (I : List D → Env → Store → Prop) (step : ∀ x xs ρ S, I (x :: xs) ρ S → ∃ ρ1 ρ2 S2, tg (.d x) ρ = some ρ1 ∧ (sb ρ1 S = .nx ρ2 S2 ∨ sb ρ1 S = .ct ρ2 S2) ∧ I xs ρ2 S2) :
    ∀ xs ρ S, I xs ρ S → ∃ ρ2 S2, forL tg sb xs ρ S = .nx ρ2 S2 ∧ I [] ρ2 S2
  | [], ρ, S, h => ⟨ρ, S, rfl, h⟩
  | x :: xs, ρ, S, h => by
    obtain ⟨ρ1, ρ2, S2, e1, e2, h2⟩ := step x xs ρ S h
    obtain ⟨ρ3, S3, e3, h3⟩ := forL_inv I step xs ρ2 S2 h2
    refine ⟨ρ3, S3, ?_, h3⟩
    rw [ap_forL1, e1]
    rcases e2 with e2 | e2 <;> simp only [e2] <;> exact e3
theorem lcL_all {tg : Tg} {f : Ev} {ρ : Env} (g : D → D) {S : Store} : ∀ (xs acc : List D), (∀ x ∈ xs, ∃ ρ1, tg (.d x) ρ = some ρ1 ∧ f ρ1 S = .ok (.d (g x)) S) → acc.length + xs.length ≤ 1000 → lcL tg tYesD f ρ xs acc S = .ok (acc ++ xs.map g) S
  | [], acc, _, _ => by simp
  | x :: xs, acc, h, hl => by
    obtain ⟨ρ1, e1, e2⟩ := h x (by simp)
    have hl' : acc.length + (xs.length + 1) ≤ 1000 := hl
    have ih := lcL_all g (S := S) xs (acc ++ [g x]) (fun y hy => h y (by simp [hy])) (by simp; omega)
    have hs : acc.length < sizeLine := Nat.lt_of_lt_of_le (by omega) (line1000 (Nat.le_refl 1000))
    unfold lcL
    simp only [e1, ap_tYesD, noX_ok, bind_ok, if_true, e2, fr_d, hs]
    rw [ih]
    simp
section
variable {S : Store} {m neg : Bool} {i j : Int} {xs : List D} {x y z u v w : D} {a b : Bool}
@[simp] theorem oAdd_int : oAdd m (.d (.int i)) (.d (.int j)) S = .ok (.d (.int (i + j))) S := rfl
@[simp] theorem oSub_int : oSub (.d (.int i)) (.d (.int j)) S = .ok (.d (.int (i - j))) S := rfl
theorem oMul_int (h : mulOk i j = true) : oMul m (.d (.int i)) (.d (.int j)) S = .ok (.d (.int (i * j))) S := by simp [oMul, h]
theorem oDiv_int (h : 0 < j) (h2 : j < 2 ^ 4000) : oDiv (.d (.int i)) (.d (.int j)) S = .ok (.d (.int (i / j))) S := by simp only [oDiv, view_d, h, h2, and_self, if_true]
theorem oMod_int (h : 0 < j) : oMod (.d (.int i)) (.d (.int j)) S = .ok (.d (.int (i % j))) S := by simp only [oMod, view_d, h, if_true]
@[simp] theorem oNeg_int : oNeg (.d (.int i)) S = .ok (.d (.int (-i))) S := rfl
@[simp] theorem oLt_int : oLt (.d (.int i)) (.d (.int j)) S = .ok (.d (.bool (decide (i < j)))) S := rfl
@[simp] theorem oGt_int : oGt (.d (.int i)) (.d (.int j)) S = .ok (.d (.bool (decide (j < i)))) S := rfl
@[simp] theorem oLe_int : oLe (.d (.int i)) (.d (.int j)) S = .ok (.d (.bool (decide (i ≤ j)))) S := rfl
@[simp] theorem oGe_int : oGe (.d (.int i)) (.d (.int j)) S = .ok (.d (.bool (decide (j ≤ i)))) S := rfl
@[simp] theorem eqv_int : PyData.eqv (.int i) (.int j) = decide (i = j) := by
  rw [Bool.eq_iff_iff]
  simp [PyData.eqv]
@[simp] theorem eqv_bool : PyData.eqv (.bool a) (.bool b) = decide (a = b) := by cases a <;> cases b <;> simp [PyData.eqv]
@[simp] theorem oEq_int : oEq (.d (.int i)) (.d (.int j)) S = .ok (.d (.bool (decide (i = j)))) S := by simp [oEq]
@[simp] theorem oNe_int : oNe (.d (.int i)) (.d (.int j)) S = .ok (.d (.bool (!decide (i = j)))) S := by simp [oNe]
@[simp] theorem oEq_bool : oEq (.d (.bool a)) (.d (.bool b)) S = .ok (.d (.bool (decide (a = b)))) S := by simp [oEq]
@[simp] theorem oNe_bool : oNe (.d (.bool a)) (.d (.bool b)) S = .ok (.d (.bool (!decide (a = b)))) S := by simp [oNe]
@[simp] theorem oIs_bool : oIs neg (.d (.bool a)) (.d (.bool b)) S = .ok (.d (.bool (if neg = true then !decide (a = b) else decide (a = b)))) S := rfl
@[simp] theorem fInt_int : fInt [.d (.int i)] S = .ok (.d (.int i)) S := rfl
@[simp] theorem fInt_bool : fInt [.d (.bool a)] S = .ok (.d (.int (if a then 1 else 0))) S := rfl
@[simp] theorem fAbs_int : fAbs [.d (.int i)] S = .ok (.d (.int (i.natAbs : Int))) S := by
  simp only [fAbs, view_d]
  split <;> first | rfl | skip
  all_goals simp_all
  all_goals omega
@[simp] theorem fMax2_int : fMax2 [.d (.int i), .d (.int j)] S = .ok (.d (.int (max i j))) S := by
  simp only [fMax2, view_d]
  congr 3
  omega
@[simp] theorem fMin2_int : fMin2 [.d (.int i), .d (.int j)] S = .ok (.d (.int (min i j))) S := by
  simp only [fMin2, view_d]
  congr 3
  omega
@[simp] theorem fLen_list : fLen [.d (.list xs)] S = .ok (.d (.int xs.length)) S := rfl
@[simp] theorem fLen_tuple : fLen [.d (.tuple xs)] S = .ok (.d (.int xs.length)) S := rfl
theorem atI_nat {α : Type} {xs : List α} {n : Nat} : atI xs (n : Int) = xs[n]? := by
  cases h : xs[n]? with
  | some x => exact L2.atI_nat h
  | none =>
    unfold atI ixN
    have : xs.length ≤ n := by simpa using h
    have h2 : ¬ (n < xs.length) := by omega
    simp [h2]
@[simp] theorem atI_0 {α : Type} {x : α} {xs : List α} : atI (x :: xs) 0 = some x := atI_nat (n := 0)
@[simp] theorem atI_1 {α : Type} {x y : α} {xs : List α} : atI (x :: y :: xs) 1 = some y := atI_nat (n := 1)
@[simp] theorem atI_2 {α : Type} {x y z : α} {xs : List α} : atI (x :: y :: z :: xs) 2 = some z := atI_nat (n := 2)
@[simp] theorem atI_3 {α : Type} {x y z u : α} {xs : List α} : atI (x :: y :: z :: u :: xs) 3 = some u := atI_nat (n := 3)
@[simp] theorem atI_4 {α : Type} {x y z u v : α} {xs : List α} : atI (x :: y :: z :: u :: v :: xs) 4 = some v := atI_nat (n := 4)
@[simp] theorem oIx_list : oIx (.d (.list xs)) (.d (.int i)) S = oPost (atI xs i) S := rfl
@[simp] theorem oIx_tuple : oIx (.d (.tuple xs)) (.d (.int i)) S = oPost (atI xs i) S := rfl
@[simp] theorem oPost_some {d : D} : oPost (some d) S = .ok (.d d) S := rfl
theorem oIx_loc {n : Nat} (h : S[n]? = some (.lst xs)) : oIx (.loc n) (.d (.int i)) S = oPost (atI xs i) S := by simp [oIx, view, h]
end
theorem mulOk_l {i j : Int} (h : i.natAbs < 2 ^ 64) : mulOk i j = true := by simp [mulOk, h]
theorem mulOk_r {i j : Int} (h : j.natAbs < 2 ^ 64) : mulOk i j = true := by simp [mulOk, h]
theorem mulOk_w {i j : Int} (h : i.natAbs < 2 ^ 4000) (h2 : j.natAbs < 2 ^ 4000) : mulOk i j = true := by unfold mulOk; rw [decide_eq_true h, decide_eq_true h2]; simp
def Bd (n : Nat) (i : Int) : Prop := i.natAbs < 2 ^ n
theorem Bd.mono {n m : Nat} {i : Int} (h : Bd n i) (hm : n ≤ m) : Bd m i := Nat.lt_of_lt_of_le h (Nat.pow_le_pow_right (by decide) hm)
theorem Bd.mul {n m : Nat} {i j : Int} (h : Bd n i) (h2 : Bd m j) : Bd (n + m) (i * j) := by
  unfold Bd at *
  rw [Int.natAbs_mul, Nat.pow_add]
  exact Nat.mul_lt_mul'' h h2
theorem Bd.add {n : Nat} {i j : Int} (h : Bd n i) (h2 : Bd n j) : Bd (n + 1) (i + j) := by
  unfold Bd at *
  rw [Nat.pow_succ]
  omega
theorem Bd.sub {n : Nat} {i j : Int} (h : Bd n i) (h2 : Bd n j) : Bd (n + 1) (i - j) := by
  unfold Bd at *
  rw [Nat.pow_succ]
  omega
theorem Bd.ok {n m : Nat} {i j : Int} (h : Bd n i) (h2 : Bd m j) (hn : n ≤ 4000) (hm : m ≤ 4000) : mulOk i j = true := mulOk_w (h.mono hn) (h2.mono hm)
theorem Bd.lt {n : Nat} {i : Int} (h : Bd n i) (hn : n ≤ 4000) : i < 2 ^ 4000 := by
  have q : i.natAbs < 2 ^ 4000 := h.mono hn
  have e : ((2 ^ 4000 : Nat) : Int) = 2 ^ 4000 := by norm_cast
  rw [← e]
  omega
theorem Bd.of {n : Nat} {i : Int} (h : i.natAbs < 2 ^ n) : Bd n i := h
def hand (cs : List Int) (p z s n : Int) : MO := .lst [.list (cs.map .int), .int p, .int z, .int s, .int n]
structure HandOk (cs : List Int) (p z s n : Int) : Prop where
  cs : ∀ c ∈ cs, 0 ≤ c
  p : 0 ≤ p
  z : 0 ≤ z
  s : 0 ≤ s
  n : 0 ≤ n
def Hand (S : Store) : Prop := ∃ cs p z s n, HandOk cs p z s n ∧ S = [hand cs p z s n]
def DrawOk (g : Fn) : Prop := ∀ (size : Int) (S : Store), 0 < size → size < 2 ^ 62 → Hand S → ∃ r S', 0 ≤ r ∧ r < size ∧ Hand S' ∧ g [.loc 0, .d (.int size)] S = .ok (.d (.int r)) S'
def absD : D → D
  | .int i => .int (i.natAbs : Int)
  | d => d
theorem cut63 {ns : List Int} (h : ns.length ≤ 63) : cutD (ns.map PyData.int) none (some 63) = ns.map PyData.int := by
  apply cutD_whole
  rw [HT.sIx_none, show HT.sIx (ns.map PyData.int).length (ns.map PyData.int).length (some 63) = min 63 (ns.map PyData.int).length from HT.sIx_nat _ _ 63]
  refine ⟨rfl, ?_⟩
  rw [List.length_map]
  omega
def IsHand (m : MO) : Prop := ∃ cs p z s n, HandOk cs p z s n ∧ m = hand cs p z s n
def DrawR (g : Fn) : Prop := ∀ (size : Int) (m : MO) (R : Store), 0 < size → size < 2 ^ 62 → IsHand m → ∃ r m', 0 ≤ r ∧ r < size ∧ IsHand m' ∧ g [.loc 0, .d (.int size)] (m :: R) = .ok (.d (.int r)) (m' :: R)
structure Rp (n k : Nat) (d : D) : Prop where
  pl : d.plain = true
  dp : d.depth ≤ k
  sh : d.showable = true
  len : d.shown.length ≤ n
theorem Rp.mono {n m k j : Nat} {d : D} (h : Rp n k d) (h1 : n ≤ m) (h2 : k ≤ j) : Rp m j d := ⟨h.pl, Nat.le_trans h.dp h2, h.sh, Nat.le_trans h.len h1⟩
theorem rp_none : Rp 4 0 .none := ⟨rfl, Nat.le_refl _, rfl, Nat.le_refl _⟩
theorem rp_bool (b : Bool) : Rp 5 0 (.bool b) := ⟨rfl, Nat.le_refl _, rfl, by cases b <;> decide⟩
theorem rp_int {i : Int} (h : Bd 1900 i) : Rp 1921 0 (.int i) := by
  have hl : i.natAbs.log2 < 1920 := by
    have : i.natAbs.log2 ≤ 1900 := log2_lt h
    omega
  exact ⟨rfl, Nat.le_refl _, by simp only [PyData.showable, decide_eq_true_eq]; exact hl, PyProof.Rows.int_text_len_1921 hl⟩
theorem rps_pl {n k : Nat} : ∀ {ds : List D}, (∀ d ∈ ds, Rp n k d) → PyData.plainAll ds = true ∧ PyData.depthAll ds ≤ k ∧ PyData.showableAll ds = true ∧ ((PyData.shownAll ds).map (·.length)).sum ≤ n * ds.length ∧ (PyData.shownAll ds).length = ds.length
  | [], _ => by simp [PyData.plainAll, PyData.depthAll, PyData.showableAll, PyData.shownAll]
  | d :: ds, h => by
    have h1 := h d (by simp)
    obtain ⟨a, b, c, e, f⟩ := rps_pl (ds := ds) fun x hx => h x (by simp [hx])
    refine ⟨by simp [PyData.plainAll, h1.pl, a], ?_, by simp [PyData.showableAll, h1.sh, c], ?_, by simp [PyData.shownAll, f]⟩
    · simp only [PyData.depthAll]
      exact Nat.max_le.mpr ⟨h1.dp, b⟩
    · simp only [PyData.shownAll, List.map_cons, List.sum_cons, List.length_cons, Nat.mul_add, Nat.mul_one]
      have := h1.len
      omega
theorem rp_list {n k : Nat} {ds : List D} (h : ∀ d ∈ ds, Rp n k d) : Rp ((n + 2) * ds.length + 3) (k + 1) (.list ds) := by
  obtain ⟨a, b, c, e, f⟩ := rps_pl h
  refine ⟨by simp [PyData.plain, a], by simp only [PyData.depth]; omega, by simp [PyData.showable, c], ?_⟩
  have := listText_len_le (PyData.shownAll ds)
  simp only [PyData.shown, Nat.add_mul]
  omega
theorem rp_tup {n k : Nat} {ds : List D} (h : ∀ d ∈ ds, Rp n k d) : Rp ((n + 2) * ds.length + 3) (k + 1) (.tuple ds) := by
  obtain ⟨a, b, c, e, f⟩ := rps_pl h
  refine ⟨by simp [PyData.plain, a], by simp only [PyData.depth]; omega, by simp [PyData.showable, c], ?_⟩
  have := tupleText_len_le (PyData.shownAll ds)
  simp only [PyData.shown, Nat.add_mul]
  omega
theorem Rp.shal {n k : Nat} {d : D} (h : Rp n k d) (hk : k ≤ 60) : shal d = true := by
  have := h.dp
  simp only [Dl.shal, h.pl, Bool.true_and, decide_eq_true_eq]
  omega
theorem rp_repr {n k : Nat} {d : D} {S : Store} (h : Rp n k d) (hn : n ≤ 16777216) (hk : k ≤ 60) : fRepr [.d d] S = .ok (.d (.str d.shown)) S := by
  have h1 : d.shown.length ≤ sizeLine := Nat.le_trans h.len (Nat.le_trans hn (by decide))
  simp [fRepr, h.shal hk, h.sh, h1]
theorem eqv_str {x y : Str} : PyData.eqv (.str x) (.str y) = decide (x = y) := by
  rw [Bool.eq_iff_iff]
  simp [PyData.eqv]
@[simp] theorem oEq_str {x y : Str} {S : Store} : oEq (.d (.str x)) (.d (.str y)) S = .ok (.d (.bool (decide (x = y)))) S := by simp [oEq, eqv_str]
@[simp] theorem oNe_str {x y : Str} {S : Store} : oNe (.d (.str x)) (.d (.str y)) S = .ok (.d (.bool (!decide (x = y)))) S := by simp [oNe, eqv_str]
mutual
theorem eqv_refl : ∀ d : D, d.plain = true → PyData.eqv d d = true
  | .none, _ => by simp [PyData.eqv]
  | .bool b, _ => by cases b <;> simp [PyData.eqv]
  | .int _, _ => by simp [PyData.eqv]
  | .str _, _ => by simp [PyData.eqv]
  | .list xs, h => by
    simp only [PyData.eqv]
    exact eqvs_refl xs (by simpa [PyData.plain] using h)
  | .tuple xs, h => by
    simp only [PyData.eqv]
    exact eqvs_refl xs (by simpa [PyData.plain] using h)
  | .dict _, h => by simp [PyData.plain] at h
theorem eqvs_refl : ∀ ds : List D, PyData.plainAll ds = true → PyData.eqvAll ds ds = true
  | [], _ => by simp [PyData.eqvAll]
  | x :: xs, h => by
    have h2 : x.plain = true ∧ PyData.plainAll xs = true := by simpa [PyData.plainAll] using h
    simp [PyData.eqvAll, eqv_refl x h2.1, eqvs_refl xs h2.2]
end
def dq (q : Rat) : D := .tuple [.int q.num, .int q.den]
theorem dq_of {a b : Int} (h : 0 < b) : PyData.tuple [.int (a / Int.gcd a b), .int (b / Int.gcd a b)] = dq (Rat.divInt a b) := by
  have e1 : (Rat.divInt a b).num = a / Int.gcd a b := by rw [Rat.num_divInt, Int.sign_eq_one_of_pos h, Int.one_mul, Int.gcd_comm]
  have e2 : ((Rat.divInt a b).den : Int) = b / Int.gcd a b := by
    rw [Rat.den_divInt, if_neg (by omega), Int.gcd_comm, Int.natCast_ediv, Int.natAbs_of_nonneg (by omega), Int.gcd_comm]
  unfold dq
  rw [e1, e2]
theorem gcd_mod (a b : Int) : Int.gcd b (a % b) = Int.gcd a b := by
  rw [Int.emod_def, Int.gcd_sub_mul_left_right, Int.gcd_comm]
structure Qs (n : Nat) (q : Rat) : Prop where
  num : Bd n q.num
  den : Bd n q.den
theorem Qs.mono {n m : Nat} {q : Rat} (h : Qs n q) (hm : n ≤ m) : Qs m q := ⟨h.num.mono hm, h.den.mono hm⟩
theorem Qs.div {n : Nat} {a b : Int} (ha : Bd n a) (hb : Bd n b) (h : 0 < b) : Qs n (Rat.divInt a b) := by
  constructor
  · rw [Rat.num_divInt, Int.sign_eq_one_of_pos h, Int.one_mul]
    exact Nat.lt_of_le_of_lt (Int.natAbs_ediv_le_natAbs a _) ha
  · rw [Rat.den_divInt, if_neg (by omega)]
    exact Nat.lt_of_le_of_lt (by simp; exact Nat.div_le_self _ _) hb
theorem Qs.rp {n : Nat} {q : Rat} (h : Qs n q) (hn : n ≤ 1900) : Rp 3849 1 (dq q) := rp_tup (n := 1921) (k := 0) (ds := [.int q.num, .int q.den]) fun d hd => by
  simp only [List.mem_cons, List.not_mem_nil, or_false] at hd
  rcases hd with rfl | rfl
  · exact rp_int (h.num.mono hn)
  · exact rp_int (h.den.mono hn)
theorem q_of (x : Rat) : Rat.divInt x.num x.den = x := by simp
theorem den_pos (x : Rat) : (0 : Int) < x.den := by have := x.den_pos; omega
theorem eqv_dq {x y : Rat} : PyData.eqv (dq x) (dq y) = decide (x = y) := by
  rw [Bool.eq_iff_iff]
  simp only [dq, PyData.eqv, PyData.eqvAll, Bool.and_true, decide_eq_true_eq]
  constructor
  · intro h
    simp at h
    exact Rat.ext h.1 (by exact_mod_cast h.2)
  · rintro rfl
    simp
instance {n : Nat} {i : Int} : Decidable (Bd n i) := inferInstanceAs (Decidable (_ < _))
theorem dq_01 : PyData.tuple [.int 0, .int 1] = dq 0 := by simp [dq]
theorem q_sub0 (x : Rat) : x - 0 = x := by grind
theorem num_den (x : Rat) : (x.num : Rat) / ((x.den : Int) : Rat) = x := by rw [← Rat.divInt_eq_div, q_of]
theorem den_ne (x : Rat) : ((x.den : Int) : Rat) ≠ 0 := by
  have := x.den_nz
  simp only [ne_eq, Rat.intCast_eq_zero_iff]
  omega
theorem divInt_den (x : Rat) (k : Int) (h : k ≠ 0) : Rat.divInt x.num (x.den * k) = x / k := by
  rw [Rat.divInt_eq_div, Rat.intCast_mul]
  have h1 := num_den x
  have h2 := den_ne x
  have h3 : (k : Rat) ≠ 0 := by simpa using h
  grind
theorem q_add (x y : Rat) : Rat.divInt (x.num * y.den + y.num * x.den) (x.den * y.den) = x + y := by
  have h1 := x.den_nz
  have h2 := y.den_nz
  rw [← Rat.divInt_add_divInt _ _ (by omega) (by omega), q_of, q_of]
theorem q_sub (x y : Rat) : Rat.divInt (x.num * y.den - y.num * x.den) (x.den * y.den) = x - y := by
  have h1 := x.den_nz
  have h2 := y.den_nz
  rw [← Rat.divInt_sub_divInt _ _ (by omega) (by omega), q_of, q_of]
theorem q_mul (x y : Rat) : Rat.divInt (x.num * y.num) (x.den * y.den) = x * y := by
  rw [← Rat.divInt_mul_divInt, q_of, q_of]
theorem dq_int (a : Int) : PyData.tuple [.int a, .int 1] = dq (a : Rat) := by simp [dq]
theorem dq_sq (a : Int) : PyData.tuple [.int (a * a), .int 1] = dq ((a : Rat) * a) := by rw [dq_int, Rat.intCast_mul]
section
variable {S : Store} {x y : Rat} {n m : Nat}
@[simp] theorem oIx_dq0 : oIx (.d (dq x)) (.d (.int 0)) S = .ok (.d (.int x.num)) S := by simp [dq]
@[simp] theorem oIx_dq1 : oIx (.d (dq x)) (.d (.int 1)) S = .ok (.d (.int x.den)) S := by simp [dq]
theorem shal_dq : shal (dq x) = true := by simp [shal, dq, PyData.plain, PyData.plainAll, PyData.depth, PyData.depthAll]
@[simp] theorem oEq_dq : oEq (.d (dq x)) (.d (dq y)) S = .ok (.d (.bool (decide (x = y)))) S := by simp [oEq, shal_dq, eqv_dq]
@[simp] theorem oNe_dq : oNe (.d (dq x)) (.d (dq y)) S = .ok (.d (.bool (!decide (x = y)))) S := by simp [oNe, shal_dq, eqv_dq]
theorem Qs.int {a : Int} (h : Bd n a) (hn : 1 ≤ n) : Qs n (a : Rat) := ⟨h, by
  show ((a : Rat).den : Int).natAbs < 2 ^ n
  have : (1 : Nat) < 2 ^ n := Nat.one_lt_two_pow (by omega)
  simpa using this⟩
theorem Qs.add (hx : Qs n x) (hy : Qs n y) : Qs (n + n + 1) (x + y) := by
  rw [← q_add]
  exact .div ((hx.num.mul hy.den).add (hy.num.mul hx.den)) ((hx.den.mul hy.den).mono (by omega)) (Int.mul_pos (den_pos x) (den_pos y))
theorem Qs.sub (hx : Qs n x) (hy : Qs n y) : Qs (n + n + 1) (x - y) := by
  rw [← q_sub]
  exact .div ((hx.num.mul hy.den).sub (hy.num.mul hx.den)) ((hx.den.mul hy.den).mono (by omega)) (Int.mul_pos (den_pos x) (den_pos y))
theorem Qs.mul (hx : Qs n x) (hy : Qs n y) : Qs (n + n) (x * y) := by
  rw [← q_mul]
  exact .div (hx.num.mul hy.num) (hx.den.mul hy.den) (Int.mul_pos (den_pos x) (den_pos y))
theorem Qs.divI {k : Int} (hx : Qs n x) (hk : Bd m k) (h : 0 < k) : Qs (n + m) (x / k) := by
  rw [← divInt_den x k (by omega)]
  exact .div (hx.num.mono (by omega)) (hx.den.mul hk) (Int.mul_pos (den_pos x) h)
end
def EnT (K : PySem.W.Frag) (a : Addr) : It where
  go := fun i H => ∃ (xs : List V) (x : V), SqT K H a xs ∧ xs[i]? = some x
  yld := fun i H v H' => ∃ T x, v = .ref T ∧ H T = none ∧ H' = upd H T (.tup [.int (i : Nat), x]) ∧ ∀ xs, SqT K H a xs → xs[i]? = some x
  stop := fun i H => ∃ xs : List V, SqT K H a xs ∧ xs.length ≤ i
theorem turn_enT {P : Program} {w : World} {K : PySem.W.Frag} {elts : List Expr} {kk : Nat} {tpos : Pos} (a e it : Addr) (hai : a ≠ it) (hae : a ≠ e) :
    Turn P w K (.Tuple elts kk tpos) (EnT K a) [e, it] e (fun i h => (∃ old, IsEnum h e it ((i : Nat) : Int) old) ∧ h.IsTupleIter it a i ∧ e ≠ it) where
  mem := by simp
  obj := fun i h ⟨⟨old, he⟩, ⟨o, ho, hc, hd⟩, _⟩ b hb => by
    rcases (by simpa using hb : b = e ∨ b = it) with z | z <;> subst z
    · exact ⟨_, he, fun v q => nomatch q⟩
    · exact ⟨o, ho, fun v q => by rw [hd] at q; cases q⟩
  keep := fun i h h' ⟨⟨old, he⟩, hi, hne⟩ k => ⟨⟨old, k e (by simp) _ he⟩, hi.at fun o q => k it (by simp) o q, hne⟩
  item := by
    intro X hP hw hK hc i pins s σ H E I hf ⟨⟨old, he⟩, hit, hne⟩ ⟨xs, x, hq, hx⟩
    subst hP hw hK
    obtain ⟨its, rv, p, hz⟩ := I.tuple hq
    obtain ⟨u, hu, ru⟩ := rv.get hx
    have hel : e < s.heap.objs.size := Heap.lt_size he
    have hil : it < s.heap.objs.size := by obtain ⟨_, q, _⟩ := hit; exact Heap.lt_size q
    have lt : i < its.toArray.size := by
      have : i < its.length := (List.getElem?_eq_some_iff.mp hu).1
      simpa using this
    have D := Draws.tuple (prog := X.prog) (w := X.w) (A := X.A.in1) (by exact I.ok.hd hc) it a hai its.toArray
    have nf : e ∉ [it, a] := fun z => by
      rcases (by simpa using z : e = it ∨ e = a) with q | q
      · exact hne q
      · exact hae q.symm
    refine wpAny_pyNext_enum_itemD D he ⟨hit, p⟩ lt hne nf fun y h' tk hy ho hst hT hsz hk => ?_
    have ey : y = u := by
      have h2 : its.toArray[i]? = some u := by simpa using hu
      rw [h2] at hy
      exact (Option.some.inj hy).symm
    subst ey
    refine ⟨_, rfl, wpAny_letOwnedTupleGo_enum (s := { s with heap := h', toks := tk + 1 }) ho fun h'' he' sb => ?_⟩
    have hT2 := (sb.2 s.heap.objs.size (Nat.ne_of_gt hel)).trans hT
    have two : (2 : Nat) ≤ sizeLine := by decide
    have new : ObjOk X.prog X.w (upd H s.heap.objs.size (.tup [.int (i : Nat), x])) h'' s.heap.objs.size (.tup [.int (i : Nat), x]) :=
      ⟨two, [.int i tk, y], .cons ⟨_, rfl⟩ (.cons ru .nil), _, hT2, rfl, _, rfl⟩
    have I1 : Inv X pins σ (upd H s.heap.objs.size (.tup [.int (i : Nat), x])) { s with heap := h'', toks := tk + 1 } :=
      I.turnedNew (ch := [e, it]) (fun b ob hb q => (sb.2 b (fun z => hb (by simp [z]))).trans (hk b ob (fun z => hb (by simp [z])) (fun z => hb (by simp [z])) q)) hf (Nat.le_refl _) new
    refine ⟨.ref s.heap.objs.size, _, I1, rfl, ⟨_, x, rfl, I.hok.fresh (Nat.le_refl _), rfl, fun ys hy => by rw [I.tuple_inj hy hq]; exact hx⟩, ⟨⟨y, ?_⟩, hst.1.at fun o q => (sb.2 it (Ne.symm hne)).trans q, hne⟩, fun b hb => ?_⟩
    · rw [show ((i + 1 : Nat) : Int) = (i : Int) + 1 by omega]
      exact he'
    · have hb' : b < s.heap.objs.size := by
        rcases (by simpa using hb : b = e ∨ b = it) with z | z <;> rw [z] <;> assumption
      rw [upd_ne (Nat.ne_of_lt hb')]
      exact (hf b hb).1
  done := by
    intro X hP hw hK hc i pins s σ H E I hf ⟨⟨old, he⟩, hit, hne⟩ ⟨xs, hq, hx⟩
    subst hP hw hK
    obtain ⟨its, rv, p, hz⟩ := I.tuple hq
    obtain ⟨f0, f1, f2, f3, f4, f5⟩ := hf it (by simp)
    have hl := rv.length
    have none_ : its.toArray[i]? = none := by simp; omega
    have D : Draws X.prog X.w X.A.in1 it [it, a] i (fun _ _ => True) fun j h => j = i ∧ h.IsTupleIter it a j ∧ h.IsTuple a its.toArray := {
      live := fun _ _ st => let ⟨o, ho, _⟩ := st.2.1; ⟨o, ho⟩
      frame := fun _ _ _ st hk => ⟨st.1, st.2.1.at fun o e => hk it (by simp) o e, st.2.2.at fun o e => hk a (by simp) o e⟩
      item := fun j s Q E hj st hQ => absurd st.1 (Nat.ne_of_lt hj)
      done := fun s Q E st hE => wpAny_nextOf_tuple_end (by exact I.ok.hd hc) st.2.1 st.2.2 none_ hE }
    exact wpAny_pyNext_enum_endD D he ⟨rfl, hit, p⟩ fun h' eb => ⟨rfl, I.turned (t' := s.toks) (fun b o hb q => eb b o hb q) f0 f1 f3 f4 f5⟩
  self := fun A i s Q E ⟨⟨_, he⟩, _⟩ h => wpAny_pyIter_enum he h
theorem meets_enT (l : Addr) (ob : Obj) (items : Array Value) (n : Nat) (hc : ob.cls = .type "tuple") (hd : ob.data = .seq items n) :
    Meets (Builtin.«enumerate.__new__» ⟨[.type "enumerate", .ref l], []⟩) (fun _ R s => s.heap.get? l = some ob ∧
      R (.ok (.ret (.ref (s.heap.push { cls := .type "tuple_iterator", data := .fields #[.ref l, .int 0 0] }).objs.size)))
        { s with heap := (s.heap.push { cls := .type "tuple_iterator", data := .fields #[.ref l, .int 0 0] }).push { cls := .type "enumerate", data := .fields #[.none, .bool false, .ref s.heap.objs.size, rawInt 0, .none, .none] } }) := by
  obtain ⟨c, dct, dt, sl⟩ := ob
  obtain rfl : c = .type "tuple" := hc
  obtain rfl : dt = .seq items n := hd
  refine .of_wp fun prog w A R s h => ?_
  obtain ⟨hp, g, d, tk, os⟩ := s
  obtain ⟨hl, h⟩ := h
  have sub := sub_enumerate
  have hL : Heap.IsTuple (Shared.heap ⟨hp, g, d, tk, os⟩) l items := ⟨_, hl, rfl, n, rfl⟩
  wp_walk using AutoSeq1.wpAny_loadPart' hl
  refine wpAny_stack_any fun st => wpAny_pure ?_
  split
  · rename_i c _ _ _ _ _
    cases (c == Value.type "enumerate") <;> (wp_walk using AutoSeq1.wpAny_loadPart' hl, wpAny_pyIter_tuple hL; exact ⟨_, rfl, h⟩)
  · wp_walk using AutoSeq1.wpAny_loadPart' hl, wpAny_pyIter_tuple hL
    exact ⟨_, rfl, h⟩
theorem call_enT {prog : Program} {w : World} {A : Around} {E : Value → Shared → Prop} {s : Shared} {l : Addr} {items : Array Value} {Q : Value → Shared → Prop} (hL : s.heap.IsTuple l items)
    (h : ∀ h', IsEnum h' (s.heap.objs.size + 1) s.heap.objs.size 0 .none → h'.IsTupleIter s.heap.objs.size l 0 → h'.objs.size = s.heap.objs.size + 2 → (∀ b o, s.heap.get? b = some o → h'.get? b = some o) → Q (.ref (s.heap.objs.size + 1)) { s with heap := h' }) :
    wpAny (model prog w) A (call (.type "enumerate") [.ref l]) Q E s := by
  obtain ⟨ob, hl, hc, n, hd⟩ := hL
  have m := meets_enT l ob items n hc hd
  refine callType_new F.called_enumerate (by decide) (F.typeCall_enumerate_1 _) (F.newCall_enumerate_1 _) (fun obj => F.args_object_init_2 obj _) F.entry_enumerate_new m ⟨hl, ?_⟩
  generalize ho : ({ cls := .type "tuple_iterator", data := .fields #[.ref l, .int 0 0] } : Obj) = o1
  generalize hn : ({ cls := .type "enumerate", data := .fields #[.none, .bool false, .ref s.heap.objs.size, rawInt 0, .none, .none] } : Obj) = o2
  have hz : (s.heap.push o1).objs.size = s.heap.objs.size + 1 := Heap.size_push ..
  have f2 : o2.isFreed = false := by subst hn; rfl
  have f1 : o1.isFreed = false := by subst ho; rfl
  have g2 := Heap.get?_push_size (s.heap.push o1) (o := o2) f2
  show _ ∧ _
  rw [hz] at g2 ⊢
  refine ⟨⟨o2, g2, by subst hn; rfl⟩, h _ (by subst hn; exact g2) ⟨o1, Heap.get?_push_of_some _ (Heap.get?_push_size _ f1), by subst ho; rfl, by subst ho; rfl⟩ (by rw [Heap.size_push, hz]) fun b o x => Heap.get?_push_of_some _ (Heap.get?_push_of_some _ x)⟩
def jEn (K : PySem.W.Frag) (ta : TA) : TI := fun σ H R => ta σ H fun vs H1 => ∃ a, vs = [.ref a] ∧ (((∃ xs, SqL K H1 a xs) ∧ R (Ite K a) H1) ∨ ((∃ xs, SqT K H1 a xs) ∧ R (EnT K a) H1))
theorem pi_enA {X : Cx} {e : Expr} {ta : TA} {p pos tpos : Pos} {elts : List Expr} {kk : Nat} (hg : Gl X "enumerate") (hm : X.mg "enumerate" = none) (ha : PA X [e] ta) (hs : starEach [e] X.env = [(false, eval e X.env)] := by rfl) :
    PI X (.Tuple elts kk tpos) (.Call (.Name "enumerate" p) [e] [] pos) (jEn X.K ta) := by
  refine ⟨fun pins s σ H R I h => ?_⟩
  refine Call_ (ld_blt I hg hm boot_enumerate (PyProof.Rows.callWith_type1 (thn (ha.run pos pins s σ H _ I h) fun us s1 ⟨vs, H1, I1, r1, a, ex, q1⟩ => ?_) hs rfl))
  subst ex
  cases r1 with
  | cons r rr =>
    cases rr
    cases r
    have fresh : ∀ b ∈ [s1.heap.objs.size + 1, s1.heap.objs.size], FpOk X pins H1 b := fun b hb => by
      have hle : s1.heap.objs.size ≤ b := by
        rcases (by simpa using hb : b = s1.heap.objs.size + 1 ∨ b = s1.heap.objs.size) with z | z <;> omega
      exact I1.fpOk hle (I1.hok.fresh hle)
    rcases q1 with ⟨⟨xs, hq⟩, q⟩ | ⟨⟨xs, hq⟩, q⟩
    · obtain ⟨its, rv, p', hz⟩ := I1.list hq
      exact call_enumerate_list p'.isList fun h' he hit hsz hk => wpAny_pyIter_enum he ⟨_, _, _, _, H1, rfl, I1.kept (t' := s1.toks) hk, turn_enum a (s1.heap.objs.size + 1) s1.heap.objs.size, ⟨⟨.none, he⟩, hit, Nat.succ_ne_self _⟩, fresh, q⟩
    · obtain ⟨its, rv, p', hz⟩ := I1.tuple hq
      have lt : a < s1.heap.objs.size := by
        obtain ⟨_, q, _⟩ := p'
        exact Heap.lt_size q
      exact call_enT p' fun h' he hit hsz hk => wpAny_pyIter_enum he ⟨_, _, _, _, H1, rfl, I1.kept (t' := s1.toks) hk, turn_enT a (s1.heap.objs.size + 1) s1.heap.objs.size (Nat.ne_of_lt lt) (Nat.ne_of_lt (Nat.lt_succ_of_lt lt)), ⟨⟨.none, he⟩, hit, Nat.succ_ne_self _⟩, fresh, q⟩
def enumD (ds : List D) : List D := ds.zipIdx.map fun p => .tuple [.int (p.2 : Nat), p.1]
def zipD (xs ys : List D) : List D := List.zipWith (fun x y => .tuple [x, y]) xs ys
def iEnumD (f : Ev) : Iv := fun ρ S => (f ρ S).bind fun v S1 => (fr v S1).bind fun d S2 => match seqOf d with
  | some ds => .ok (enumD ds) S2
  | none => .bad
def iZipD (f : Av) : Iv := fun ρ S => (f ρ S).bind fun vs S1 => (frs vs S1).bind fun ds S2 => match ds with
  | [.list xs, .list ys] => .ok (zipD xs ys) S2
  | [.tuple xs, .tuple ys] => .ok (zipD xs ys) S2
  | _ => .bad
section
variable {K : PySem.W.Frag} {F : Addr → Prop} {H : Hp} {a b : Addr} {xs ys : List V} {ds es : List D}
theorem enumD_len : (enumD ds).length = ds.length := by simp [enumD]
theorem enumD_get {i : Nat} (h : i < ds.length) : (enumD ds)[i]? = some (.tuple [.int (i : Nat), ds[i]]) := by simp [enumD, h]
theorem yl_enL (hf : F a) (h1 : H a = some (.lst xs)) (h2 : FzAll K F H xs ds) : Yl K F H (Ite K a) (enumD ds) := by
  have at_ : ∀ H', Agree F H H' → SqL K H' a xs := fun H' g => .inl (.inl ((g a hf).trans h1))
  refine ⟨fun i H' hi g => ?_, fun H' g => ⟨xs, at_ H' g, by rw [enumD_len, h2.len]; exact Nat.le_refl _⟩, fun i H' v H'' hi g y => ?_⟩ <;> rw [enumD_len] at hi
  · obtain ⟨v, hv, _⟩ := h2.get (List.getElem?_eq_getElem hi)
    exact ⟨xs, v, at_ H' g, hv⟩
  · obtain ⟨v', hv, fv⟩ := h2.get (List.getElem?_eq_getElem hi)
    obtain ⟨T, x, e1, e2, e3, e4⟩ := y
    have e := e4 xs (at_ H' g)
    rw [hv] at e
    cases e
    exact ⟨_, enumD_get hi, .inr ⟨T, _, _, e1, e2, e3, rfl, .cons (.int _) (.cons fv .nil)⟩⟩
theorem yl_enT (h1 : FqT K F H a xs) (h2 : FzAll K F H xs ds) : Yl K F H (EnT K a) (enumD ds) := by
  have at_ : ∀ H', Agree F H H' → SqT K H' a xs := fun H' g => (h1.ext (fun _ h => h) g).sq
  refine ⟨fun i H' hi g => ?_, fun H' g => ⟨xs, at_ H' g, by rw [enumD_len, h2.len]; exact Nat.le_refl _⟩, fun i H' v H'' hi g y => ?_⟩ <;> rw [enumD_len] at hi
  · obtain ⟨v, hv, _⟩ := h2.get (List.getElem?_eq_getElem hi)
    exact ⟨xs, v, at_ H' g, hv⟩
  · obtain ⟨v', hv, fv⟩ := h2.get (List.getElem?_eq_getElem hi)
    obtain ⟨T, x, e1, e2, e3, e4⟩ := y
    have e := e4 xs (at_ H' g)
    rw [hv] at e
    cases e
    exact ⟨_, enumD_get hi, .inr ⟨T, _, _, e1, e2, e3, rfl, .cons (.int _) (.cons fv .nil)⟩⟩
theorem zipD_len : (zipD ds es).length = min ds.length es.length := by simp [zipD]
theorem zipD_get {i : Nat} (h : i < ds.length) (h2 : i < es.length) : (zipD ds es)[i]? = some (.tuple [ds[i], es[i]]) := by simp [zipD, List.getElem?_zipWith, h, h2]
theorem yl_zipL (hf : F a) (h1 : H a = some (.lst xs)) (h2 : FzAll K F H xs ds) (hf' : F b) (h3 : H b = some (.lst ys)) (h4 : FzAll K F H ys es) : Yl K F H (Itz K a b) (zipD ds es) := by
  have at_ : ∀ H', Agree F H H' → SqL K H' a xs := fun H' g => .inl (.inl ((g a hf).trans h1))
  have bt_ : ∀ H', Agree F H H' → SqL K H' b ys := fun H' g => .inl (.inl ((g b hf').trans h3))
  refine ⟨fun i H' hi g => ?_, fun H' g => ⟨xs, ys, at_ H' g, bt_ H' g, by rw [zipD_len, h2.len, h4.len]; omega⟩, fun i H' v H'' hi g y => ?_⟩ <;> rw [zipD_len] at hi
  · obtain ⟨v, hv, _⟩ := h2.get (List.getElem?_eq_getElem (by omega : i < ds.length))
    obtain ⟨u, hu, _⟩ := h4.get (List.getElem?_eq_getElem (by omega : i < es.length))
    exact ⟨xs, ys, v, u, at_ H' g, bt_ H' g, hv, hu⟩
  · obtain ⟨v', hv, fv⟩ := h2.get (List.getElem?_eq_getElem (by omega : i < ds.length))
    obtain ⟨u', hu, fu⟩ := h4.get (List.getElem?_eq_getElem (by omega : i < es.length))
    obtain ⟨T, x, y, e1, e2, e3, e4, e5⟩ := y
    have e := e4 xs (at_ H' g)
    rw [hv] at e
    cases e
    have e := e5 ys (bt_ H' g)
    rw [hu] at e
    cases e
    exact ⟨_, zipD_get (by omega) (by omega), .inr ⟨T, _, _, e1, e2, e3, rfl, .cons fv (.cons fu .nil)⟩⟩
theorem yl_zipT (h1 : FqT K F H a xs) (h2 : FzAll K F H xs ds) (h3 : FqT K F H b ys) (h4 : FzAll K F H ys es) : Yl K F H (RZ.ItzT K a b) (zipD ds es) := by
  have at_ : ∀ H', Agree F H H' → SqT K H' a xs := fun H' g => (h1.ext (fun _ h => h) g).sq
  have bt_ : ∀ H', Agree F H H' → SqT K H' b ys := fun H' g => (h3.ext (fun _ h => h) g).sq
  refine ⟨fun i H' hi g => ?_, fun H' g => ⟨xs, ys, at_ H' g, bt_ H' g, by rw [zipD_len, h2.len, h4.len]; omega⟩, fun i H' v H'' hi g y => ?_⟩ <;> rw [zipD_len] at hi
  · obtain ⟨v, hv, _⟩ := h2.get (List.getElem?_eq_getElem (by omega : i < ds.length))
    obtain ⟨u, hu, _⟩ := h4.get (List.getElem?_eq_getElem (by omega : i < es.length))
    exact ⟨xs, ys, v, u, at_ H' g, bt_ H' g, hv, hu⟩
  · obtain ⟨v', hv, fv⟩ := h2.get (List.getElem?_eq_getElem (by omega : i < ds.length))
    obtain ⟨u', hu, fu⟩ := h4.get (List.getElem?_eq_getElem (by omega : i < es.length))
    obtain ⟨T, x, y, e1, e2, e3, e4, e5⟩ := y
    have e := e4 xs (at_ H' g)
    rw [hv] at e
    cases e
    have e := e5 ys (bt_ H' g)
    rw [hu] at e
    cases e
    exact ⟨_, zipD_get (by omega) (by omega), .inr ⟨T, _, _, e1, e2, e3, rfl, .cons fv (.cons fu .nil)⟩⟩
end
section
variable {X : Cx} {W : WX} {c d : Expr} {f f' : Ev} {p pos tpos : Pos} {elts : List Expr} {kk : Nat}
theorem di_enum (hg : Gl X "enumerate") (hm : X.mg "enumerate" = none) (h : DA τ X W [c] (aCons f aNil)) (hs : starEach [c] X.env = [(false, eval c X.env)] := by rfl) : DI τ X W (.Tuple elts kk tpos) (.Call (.Name "enumerate" p) [c] [] pos) (iEnumD f) :=
  ⟨PI.mono (pi_enA hg hm h.r hs) fun σ H R ⟨φ, F, ρ, S, g, sl, q⟩ => by
    refine ⟨φ, F, ρ, S, g, sl, ?_⟩
    unfold iEnumD at q
    unfold aCons aNil
    have q2 : PostG τ X.K X.mg (RepY X.K) (fun c od H' => W c od σ H') S.length φ F H R (((f ρ S).bind fun v S1 => Res.ok [v] S1).bind fun vs S1 => match vs with
      | [v] => (fr v S1).bind fun d S2 => match seqOf d with
        | some ds => .ok (enumD ds) S2
        | none => .bad
      | _ => .bad) := by
      cases e : f ρ S <;> (rw [e] at q; exact q)
    refine PostG.bind g q2 fun φ1 F1 H1 S1 vs xs nw1 r1 p1 => ?_
    cases vs with
    | nil => exact p1.elim
    | cons v vs =>
      cases vs with
      | cons _ _ => exact p1.elim
      | nil =>
        obtain ⟨x, rfl, rx⟩ := reps1 r1
        dsimp only at p1
        have hne : fr v S1 ≠ .bad := fun e => by rw [e] at p1; exact p1
        obtain ⟨φ2, F2, S2, d, nw2, f2, e2⟩ := fr_ok nw1.sg rx hne
        rw [e2] at p1
        have p2 := PostG.start nw1.sg nw2 p1
        cases d <;> first | exact p2.elim | skip
        · cases f2 with
          | lst h1 h2 h3 => exact ⟨_, rfl, .inl ⟨⟨_, .inl (.inl h2)⟩, p2 _ _ _ (.refl nw2.sg) _ (yl_enL h1 h2 h3)⟩⟩
        · cases f2 with
          | tup h1 h2 => exact ⟨_, rfl, .inr ⟨⟨_, h1.sq⟩, p2 _ _ _ (.refl nw2.sg) _ (yl_enT h1 h2)⟩⟩⟩
theorem di_zip {fs : Av} (hg : Gl X "zip") (hm : X.mg "zip" = none) (h : DA τ X W [c, d] fs) (hs : starEach [c, d] X.env = (false, eval c X.env) :: starEach [d] X.env := by rfl) (hpl : (backTo pos (starEach [d] X.env)).any (·.1) = false := by rfl) : DI τ X W (.Tuple elts kk tpos) (.Call (.Name "zip" p) [c, d] [] pos) (iZipD fs) :=
  ⟨PI.mono (RZ.pi_zipA hg hm h.r hs hpl) fun σ H R ⟨φ, F, ρ, S, g, sl, q⟩ => by
    refine ⟨φ, F, ρ, S, g, sl, PostG.bind g q fun φ1 F1 H1 S1 vs xs nw1 r1 p1 => ?_⟩
    obtain ⟨φ2, F2, S2, ds, nw2, f2, p2⟩ := frs_ok (k := fun ds S2 => (match ds with
      | [.list xs, .list ys] => .ok (zipD xs ys) S2
      | [.tuple xs, .tuple ys] => .ok (zipD xs ys) S2
      | _ => .bad : Res (List D))) nw1.sg r1 p1
    have p3 := PostG.start nw1.sg nw2 p2
    split at p3
    · cases f2 with
      | cons fa t => cases t with
        | cons fb t => cases t with
          | nil => cases fa with
            | lst h1 h2 h3 => cases fb with
              | lst h4 h5 h6 => exact ⟨_, _, _, _, rfl, .inl ⟨.inl (.inl h2), .inl (.inl h5), p3 _ _ _ (.refl nw2.sg) _ (yl_zipL h1 h2 h3 h4 h5 h6)⟩⟩
    · cases f2 with
      | cons fa t => cases t with
        | cons fb t => cases t with
          | nil => cases fa with
            | tup h1 h2 => cases fb with
              | tup h4 h5 => exact ⟨_, _, _, _, rfl, .inr ⟨h1.sq, h4.sq, p3 _ _ _ (.refl nw2.sg) _ (yl_zipT h1 h2 h4 h5)⟩⟩
    · exact p3.elim⟩
end
def isLst (S : Store) (v : Vl) : Bool := match v with
  | .loc n => match S[n]? with
    | some (.lst _) => true
    | _ => false
  | _ => false
def putApp (o : Vl) (d : D) (S : Store) : Res Vl := match o with
  | .loc n => match S[n]? with
    | some (.lst xs) => if xs.length < sizeLine then .ok (.d .none) (S.set n (.lst (xs ++ [d]))) else .bad
    | _ => .bad
  | _ => .bad
def eApp (fo fe : Ev) : Ev := fun ρ S => (fo ρ S).bind fun o S1 => if isLst S1 o = true then (fe ρ S1).bind fun v S2 => (fr v S2).bind fun d S3 => putApp o d S3 else .bad
def putExt (o : Vl) (v : Vl) (S : Store) : Res Vl := match o, view S v with
  | .loc n, some (.list ys) => match S[n]? with
    | some (.lst xs) => if xs.length + ys.length ≤ sizeLine then .ok (.d .none) (S.set n (.lst (xs ++ ys))) else .bad
    | _ => .bad
  | _, _ => .bad
def eExt (fo fe : Ev) : Ev := fun ρ S => (fo ρ S).bind fun o S1 => if isLst S1 o = true then (fe ρ S1).bind fun v S2 => putExt o v S2 else .bad
section
variable {X : Cx} {W : WX} {o e : Expr} {fo fe : Ev} {apos cpos : Pos}
theorem ty_loc {K : PySem.W.Frag} {mg : Str → Option Value} {φ : Nat → Addr} {F : Addr → Prop} {H : Hp} {S : Store} {v : Vl} {x : V} (g : SG τ K φ F H S) (r : RepV K mg φ F H S.length x v) (h : isLst S v = true) : tyV K "list" x H := by
  unfold isLst at h
  split at h
  · split at h
    · rename_i n xs q
      obtain ⟨_, rfl⟩ := r
      obtain ⟨_, ys, h1, _⟩ := g.obj _ _ q
      exact .inl ⟨rfl, ys, .inl (.inl h1)⟩
    · cases h
  · cases h
theorem da_one {fs : Ev} {σ : L2.St} {H : Hp} {Q : List V → Hp → Prop} (h : ∃ φ F ρ S, SG τ X.K φ F H S ∧ Slots X.K X.mg φ F H S.length σ ρ ∧ Post τ X.K X.mg (fun c od H' => W c od σ H') S.length φ F H (fun v H1 => Q [v] H1) (fs ρ S)) : RA τ X.K X.mg W (aCons fs aNil) σ H Q := by
  obtain ⟨φ, F, ρ, S, g, sl, p⟩ := h
  refine ⟨φ, F, ρ, S, g, sl, ?_⟩
  unfold aCons aNil
  cases e : fs ρ S with
  | bad => rw [e] at p; exact p
  | ex x S1 => rw [e] at p; exact p
  | ok v S1 =>
    rw [e] at p
    intro φ1 F1 H1 nw xs r
    obtain ⟨x, rfl, rx⟩ := reps1 r
    exact p _ _ _ nw x rx
theorem de_append (ho : DE τ X W o fo) (ha : DA τ X W [e] (aCons fe aNil)) (hbase : attributeBase o "append" X.env (eval o X.env) = eval o X.env := by rfl)
    (hfew : ((backTo cpos (starEach [e] X.env)).all (fun x => !x.1) && (backToKw cpos (keywordEach [] X.env)).all (fun x => x.1.isSome) && decide ([e].length + ([] : List Keyword).length + (if ([] : List Keyword).isEmpty then 0 else 1) < 30)) = true := by rfl)
    (hline : (apos.endLine == cpos.line) = true := by rfl) (hs : starEach [e] X.env = (false, eval e X.env) :: starEach [] X.env := by rfl) (hplain : (backTo cpos (starEach [] X.env)).any (·.1) = false := by rfl) :
    DE τ X W (.Call (.Attribute o "append" apos) [e] [] cpos) (eApp fo fe) :=
  ⟨PE.mono (pe_bm PySem.F.plainAttrs_list PySem.F.slot_list_append PySem.F.type_list_append mt_append ho.r ha.r hbase hfew hline hs hplain) fun σ H Q ⟨φ, F, ρ, S, g, sl, p⟩ =>
    ⟨φ, F, ρ, S, g, sl, PostG.bind g p fun φ1 F1 H1 S1 v x nw1 r1 p1 => by
      by_cases hl : isLst S1 v = true
      · rw [if_pos hl] at p1
        refine ⟨ty_loc nw1.sg r1 hl, da_one ⟨φ1, F1, ρ, S1, nw1.sg, sl.now nw1, PostG.bind nw1.sg p1 fun φ2 F2 H2 S2 u y nw2 r2 p2 => ?_⟩⟩
        have hne : fr u S2 ≠ .bad := fun e => by rw [e] at p2; exact p2
        obtain ⟨φ3, F3, S3, d, nw3, f3, e3⟩ := fr_ok nw2.sg r2 hne
        rw [e3, bind_ok] at p2
        have p3 := PostG.start nw2.sg nw3 p2
        unfold putApp at p3
        split at p3
        · rename_i n
          split at p3
          · rename_i xs q
            by_cases hz : xs.length < sizeLine
            · rw [if_pos hz] at p3
              obtain ⟨h0, ys, h1, h2⟩ := nw3.sg.obj n _ q
              obtain ⟨hn, rfl⟩ := ((r1.now nw2).now nw3)
              refine ⟨_, ys, y, rfl, rfl, h1, by rw [h2.len]; exact hz, ?_⟩
              have nw4 := nw3.sg.write (o := .lst (ys ++ [y])) (mo := .lst (xs ++ [d])) q rfl fun nf same => ⟨nf, _, upd_same, (h2.append (.cons f3 .nil)).ext (fun _ h => h) same⟩
              exact PostG.start nw3.sg nw4 p3 _ _ _ (.refl nw4.sg) _ .non
            · rw [if_neg hz] at p3; exact p3.elim
          · exact p3.elim
        · exact p3.elim
      · rw [if_neg hl] at p1; exact p1.elim⟩⟩
theorem de_extend (ho : DE τ X W o fo) (ha : DA τ X W [e] (aCons fe aNil)) (hbase : attributeBase o "extend" X.env (eval o X.env) = eval o X.env := by rfl)
    (hfew : ((backTo cpos (starEach [e] X.env)).all (fun x => !x.1) && (backToKw cpos (keywordEach [] X.env)).all (fun x => x.1.isSome) && decide ([e].length + ([] : List Keyword).length + (if ([] : List Keyword).isEmpty then 0 else 1) < 30)) = true := by rfl)
    (hline : (apos.endLine == cpos.line) = true := by rfl) (hs : starEach [e] X.env = (false, eval e X.env) :: starEach [] X.env := by rfl) (hplain : (backTo cpos (starEach [] X.env)).any (·.1) = false := by rfl) :
    DE τ X W (.Call (.Attribute o "extend" apos) [e] [] cpos) (eExt fo fe) :=
  ⟨PE.mono (pe_bm PySem.F.plainAttrs_list PySem.F.slot_list_extend PySem.F.type_list_extend mt_extend ho.r ha.r hbase hfew hline hs hplain) fun σ H Q ⟨φ, F, ρ, S, g, sl, p⟩ =>
    ⟨φ, F, ρ, S, g, sl, PostG.bind g p fun φ1 F1 H1 S1 v x nw1 r1 p1 => by
      by_cases hl : isLst S1 v = true
      · rw [if_pos hl] at p1
        refine ⟨ty_loc nw1.sg r1 hl, da_one ⟨φ1, F1, ρ, S1, nw1.sg, sl.now nw1, PostG.bind nw1.sg p1 fun φ2 F2 H2 S2 u y nw2 r2 p2 => ?_⟩⟩
        unfold putExt at p2
        split at p2
        · rename_i n zs q0
          split at p2
          · rename_i xs q
            by_cases hz : xs.length + zs.length ≤ sizeLine
            · rw [if_pos hz] at p2
              obtain ⟨b, ws, rfl, h3, h4⟩ := ob_of nw2.sg r2 q0
              obtain ⟨h0, ys, h1, h2⟩ := nw2.sg.obj n _ q
              obtain ⟨hn, rfl⟩ := (r1.now nw2)
              refine ⟨_, b, ys, ws, rfl, rfl, h1, h3, by rw [h2.len, h4.len]; exact hz, ?_⟩
              have nw4 := nw2.sg.write (o := .lst (ys ++ ws)) (mo := .lst (xs ++ zs)) q rfl fun nf same => ⟨nf, _, upd_same, (h2.append h4).ext (fun _ h => h) same⟩
              exact PostG.start nw2.sg nw4 p2 _ _ _ (.refl nw4.sg) _ .non
            · rw [if_neg hz] at p2; exact p2.elim
          · exact p2.elim
        · exact p2.elim
      · rw [if_neg hl] at p1; exact p1.elim⟩⟩
end
def fSum1 : Fn := fun vs S => match vs with
  | [v] => match view S v with
    | some (.list ds) => match intsOf ds with
      | some ns => .ok (.d (.int ns.sum)) S
      | none => .bad
    | _ => .bad
  | _ => .bad
theorem ok_sum1 {K : PySem.W.Frag} {mg : Str → Option Value} : CallOk τ K mg (rSum K) fSum1 := by
  intro φ F H S xs vs Q W g r p
  unfold fSum1 at p
  split at p
  · rename_i v
    obtain ⟨x, rfl, r1⟩ := reps1 r
    split at p
    · rename_i ds e
      obtain ⟨a, ys, rfl, h1, h2⟩ := ob_of g r1 e
      split at p
      · rename_i ns en
        have ey := intsOf_fz en h2
        subst ey
        exact ⟨a, ns, rfl, .inl (.inl h1), Post.ok g p (.int _)⟩
      · exact p.elim
    · exact p.elim
  · exact p.elim
def eRevL (m : Bool) (f : Ev) : Ev := fun ρ S => (f ρ S).bind fun v S1 => match view S1 v with
  | some (.list ds) => mkL m ds.reverse S1
  | _ => .bad
theorem FzAll.rev {K : PySem.W.Frag} {F : Addr → Prop} {H : Hp} : ∀ {xs : List V} {ds : List D}, FzAll K F H xs ds → FzAll K F H xs.reverse ds.reverse
  | _, _, .nil => .nil
  | _, _, .cons h t => by
    rw [List.reverse_cons, List.reverse_cons]
    exact (FzAll.rev t).append (.cons h .nil)
theorem de_revL {X : Cx} {W : WX} {e : Expr} {f : Ev} {k : Nat} {p1 p2 p3 pos : Pos} (m : Bool) (h : DE τ X W e f) : DE τ X W (.Subscript e (.Slice none none (some (.UnaryOp .USub (.Constant (.int 1) k p1) p2)) p3) pos) (eRevL m f) :=
  ⟨PE.mono (pe_revL h.r) fun σ H Q ⟨φ, F, ρ, S, g, sl, p⟩ => ⟨φ, F, ρ, S, g, sl, PostG.bind g p fun φ1 F1 H1 S1 v x nw1 r1 p1 => by
    split at p1
    · rename_i ds e
      obtain ⟨a, ys, rfl, h1, h2⟩ := ob_of nw1.sg r1 e
      exact ⟨a, ys, rfl, .inl (.inl h1), Post.newL nw1.sg h2.rev p1⟩
    · exact p1.elim⟩⟩
section
variable {ρ : Env} {S : Store} {f g : Ev} {fs : Av} {m : Bool}
@[simp] theorem ap_eApp : eApp f g ρ S = (f ρ S).bind fun o S1 => if isLst S1 o = true then (g ρ S1).bind fun v S2 => (fr v S2).bind fun d S3 => putApp o d S3 else .bad := rfl
@[simp] theorem ap_eExt : eExt f g ρ S = (f ρ S).bind fun o S1 => if isLst S1 o = true then (g ρ S1).bind fun v S2 => putExt o v S2 else .bad := rfl
@[simp] theorem ap_eRevL : eRevL m f ρ S = (f ρ S).bind fun v S1 => match view S1 v with
  | some (.list ds) => mkL m ds.reverse S1
  | _ => .bad := rfl
@[simp] theorem ap_iEnumD : iEnumD f ρ S = (f ρ S).bind fun v S1 => (fr v S1).bind fun d S2 => match seqOf d with
  | some ds => .ok (enumD ds) S2
  | none => .bad := rfl
@[simp] theorem ap_iZipD : iZipD fs ρ S = (fs ρ S).bind fun vs S1 => (frs vs S1).bind fun ds S2 => match ds with
  | [.list xs, .list ys] => .ok (zipD xs ys) S2
  | [.tuple xs, .tuple ys] => .ok (zipD xs ys) S2
  | _ => .bad := rfl
end
section
variable {prog : Program} {w : World} {A : Around} {E : Value → Shared → Prop} {s : Shared}
theorem cut_back {sl : Addr} {vl vu vs : Value} {n : Nat} {Q : Int × Int × Nat → Shared → Prop} (hs : s.heap.IsSliceOf sl vl vu vs) (pl : IsPart vl none) (pu : IsPart vu none) (ps : IsPart vs (some (-1)))
    (h : Q ((n : Int) - 1, -1, n) s) : wpAny (model prog w) A (Builtin.Slice.sliceApplied (.ref sl) (pure (n : Int))) Q E s := by
  obtain ⟨os, hos, hcs, hds⟩ := id hs
  unfold Builtin.Slice.sliceApplied Builtin.Slice.sliceFields
  refine wpAny_bind (wpAny_bind (wpAny_field hos hds (x := vl) rfl (wpAny_bind (wpAny_field hos hds (x := vu) rfl (wpAny_bind (wpAny_field hos hds (x := vs) rfl (wpAny_pure ?_)))))))
  refine wpAny_bind (HT.slicePart_ ps ?_)
  show wpAny _ _ (if ((-1 : Int) == 0) = true then _ else _) _ _ s
  rw [if_neg (by decide)]
  refine wpAny_bind (HT.slicePart_ pl (wpAny_bind (HT.slicePart_ pu (wpAny_bind (wpAny_pure ?_)))))
  have e1 : Builtin.Slice.sliceAdjust none none (-1) (n : Int) = ((n : Int) - 1, -1) := by
    unfold Builtin.Slice.sliceAdjust
    simp
  have e2 : Builtin.Slice.slicePlaces ((n : Int) - 1) (-1) (-1) = n := by
    unfold Builtin.Slice.slicePlaces
    simp
    omega
  show wpAny _ _ (match Builtin.Slice.sliceAdjust none none (-1) (n : Int) with | (lo, hi) => pure (lo, (-1 : Int), Builtin.Slice.slicePlaces lo hi (-1))) _ _ s
  rw [e1]
  show wpAny _ _ (pure ((n : Int) - 1, (-1 : Int), Builtin.Slice.slicePlaces ((n : Int) - 1) (-1) (-1))) _ _ s
  rw [e2]
  exact wpAny_pure h
theorem pick_back (xs : Array Value) : ((List.range xs.size).filterMap fun (m : Nat) => xs[((xs.size : Int) - 1 + (m : Int) * -1).toNat]?).toArray = xs.toList.reverse.toArray := by
  rw [← PySem.W.krv_pick]
  unfold slicePick
  rw [PySem.W.krv_bounds]
  show _ = ((sliceRange ((xs.size : Int) - 1) (-1) (-1)).filterMap (xs[·]?)).toArray
  rw [PySem.W.krv_sliceRange]
  have e : (List.range xs.size).map (fun k => xs.size - 1 - k) = (List.range xs.size).map fun (m : Nat) => ((xs.size : Int) - 1 + (m : Int) * -1).toNat := List.map_congr_left fun m hm => by
    have := List.mem_range.mp hm
    omega
  rw [e, List.filterMap_map]
  rfl
theorem item_back {t sl : Addr} {items : Array Value} {vl vu vs : Value} {Q : Value → Shared → Prop} (ht : IsTup s.heap t items) (hs : s.heap.IsSliceOf sl vl vu vs) (pl : IsPart vl none) (pu : IsPart vu none) (ps : IsPart vs (some (-1)))
    (h : Q (.ref s.heap.objs.size) { s with heap := s.heap.push { cls := .type "tuple", data := .seq items.toList.reverse.toArray } }) (hsz : items.size ≤ sizeLine) : wpAny (model prog w) A (getItem (.ref t) (.ref sl)) Q E s := by
  have big : sizeOk (.seq items.toList.reverse.toArray) := by
    show items.toList.reverse.toArray.size ≤ sizeLine
    simpa using hsz
  obtain ⟨os, hos, hcs, hds⟩ := id hs
  have hTs : s.TypeIs (.ref sl) "slice" := ⟨os, hos, hcs⟩
  unfold getItem
  try with_reducible refine wpAny_holding ?_
  first | refine wpAny_bind (wpAny_pure ?_) | skip
  refine wpAny_bind (wpAny_sequenceKey ht.typeIs (by decide) ?_)
  refine wpAny_bind (wpAny_callSpecial?_slot (name := Str.ofString "__getitem__") ht.typeIs PyProof.Rows.slot_tuple_getitem (wpAny_call_entry PyProof.Rows.slot_tuple_getitem ht.typeIs PyProof.Rows.entry_tuple_getitem ?_ (PyProof.Rows.args_tuple_getitem _ _)))
  show wpAny _ _ (Builtin.Tuple.tupleItemsOf (.ref t) >>= _) _ _ s
  refine wpAny_bind (PyProof.Rows.tupleItemsOf_ ht (wpAny_bind (wpAny_typeOf hTs ?_)))
  rw [if_pos (by decide)]
  refine wpAny_bind (cut_back hs pl pu ps ?_)
  have hno : ¬ ((((items.size : Int) - 1 : Int) == 0 && (-1 : Int) == 1 && items.size == items.size) = true) := by simp
  show wpAny _ _ (if ((((items.size : Int) - 1 : Int) == 0 && (-1 : Int) == 1 && items.size == items.size) = true) then _ else _) _ _ s
  rw [if_neg hno, pick_back]
  first
    | exact wpAny_bind (m := Builtin.Tuple.tupleExact _) (wpAny_newObj_type (wpAny_pure ⟨_, rfl, wpAny_pure h⟩) big)
    | exact wpAny_bind (m := Builtin.Tuple.tupleExact _) (wpAny_newObj_type (wpAny_bind (wpAny_pure (wpAny_pure ⟨_, rfl, wpAny_pure h⟩))) big)
    | exact wpAny_bind (wpAny_bind (m := Builtin.Tuple.tupleExact _) (wpAny_newObj_type (wpAny_pure (wpAny_pure ⟨_, rfl, wpAny_pure h⟩)) big))
    | exact wpAny_bind (wpAny_bind (m := Builtin.Tuple.tupleExact _) (wpAny_newObj_type (wpAny_pure ⟨_, rfl, wpAny_pure h⟩) big))
end
def tRevA (K : PySem.W.Frag) (te : TE) : TE := fun σ H Q => te σ H fun x H1 => ∃ a xs, x = .ref a ∧ ((SqL K H1 a xs ∧ ∀ p, H1 p = none → Q (.ref p) (upd H1 p (.lst xs.reverse))) ∨ (SqT K H1 a xs ∧ ∀ p, H1 p = none → Q (.ref p) (upd H1 p (.tup xs.reverse))))
theorem pe_revA {X : Cx} {e : Expr} {te : TE} {k : Nat} {p1 p2 p3 pos : Pos} (he : PE X e te) : PE X (.Subscript e (.Slice none none (some (.UnaryOp .USub (.Constant (.int 1) k p1) p2)) p3) pos) (tRevA X.K te) := by
  refine ⟨fun pins s σ H Q I h => ?_⟩
  refine Subscript_ (thn (he.run pins s σ H _ I h) fun v s1 ⟨x, H1, I1, r1, a, xs, ex, q1⟩ => ?_)
  subst ex
  cases r1
  have back : PO X (some (.UnaryOp .USub (.Constant (.int 1) k p1) p2)) (tPart (tUn (rU fun i => .int (-i)) (tC (.int 1)))) := po_some (pe_un un_neg pe_int)
  refine wpAny_Slice (thn (po_none.run pins s1 σ H1 (fun o H2 => o = none ∧ H2 = H1) I1 ⟨rfl, rfl⟩) fun vl s2 ⟨l, H2, I2, pl, el, e2⟩ => ?_)
  subst el e2
  refine thn (po_none.run pins s2 σ H2 (fun o H3 => o = none ∧ H3 = H2) I2 ⟨rfl, rfl⟩) fun vu s3 ⟨u, H3, I3, pu, eu, e3⟩ => ?_
  subst eu e3
  refine thn (back.run pins s3 σ H3 (fun o H4 => o = some (-1) ∧ H4 = H3) I3 ⟨1, rfl, -1, rfl, rfl, rfl⟩) fun vs s4 ⟨o, H4, I4, ps, eo, e4⟩ => ?_
  subst eo e4
  have I5 : Inv X pins σ H4 { s4 with heap := s4.heap.push { cls := .type "slice", data := .fields #[vl, vu, vs] } } := I4.kept (t' := s4.toks) fun b ob q => Heap.get?_push_of_some _ q
  show wpAny (model X.prog X.w) X.A (subscriptTail e (.Slice none none (some (.UnaryOp .USub (.Constant (.int 1) k p1) p2)) p3) (.ref a) (.ref s4.heap.objs.size)) (EP X pins σ Q) X.xe { s4 with heap := s4.heap.push { cls := .type "slice", data := .fields #[vl, vu, vs] } }
  rcases q1 with ⟨hx, q⟩ | ⟨hx, q⟩
  · obtain ⟨its, r, ht, hz⟩ := I5.list hx
    have hl := r.length
    refine tail_any (ops := [.ref a, .ref s4.heap.objs.size]) ht.isList.typeIs (PySem.slot_list_getitem.lookup) ?_ (by with_unfolding_all rfl)
    refine wpAny_getItem_list_slice ht.isList (Heap.IsSliceOf.new _ vl vu vs) pl pu ps (by decide) ?_ (by rw [List.size_toArray]; omega)
    rw [PySem.W.krv_pick]
    exact ⟨.ref _, _, I5.laid (t' := s4.toks) (o := .lst xs.reverse) (fun b ob q => Heap.get?_push_of_some _ q) (Nat.le_refl _) ⟨by rw [List.length_reverse]; exact hz, _, 0, r.reverse, Heap.get?_push_size _ rfl⟩, rfl, q _ (I5.hok.fresh (Nat.le_refl _))⟩
  · obtain ⟨its, r, ht, hz⟩ := I5.tuple hx
    have hl := r.length
    refine tail_any (ops := [.ref a, .ref s4.heap.objs.size]) ht.typeIs PyProof.Rows.slot_tuple_getitem.lookup ?_ (by with_unfolding_all rfl)
    refine item_back ht (Heap.IsSliceOf.new _ vl vu vs) pl pu ps ?_ (by rw [List.size_toArray]; omega)
    exact ⟨.ref _, _, I5.laid (t' := s4.toks) (o := .tup xs.reverse) (fun b ob q => Heap.get?_push_of_some _ q) (Nat.le_refl _) ⟨by rw [List.length_reverse]; exact hz, _, r.reverse, IsTup.new _ _⟩, rfl, q _ (I5.hok.fresh (Nat.le_refl _))⟩
def eRev (m : Bool) (f : Ev) : Ev := fun ρ S => (f ρ S).bind fun v S1 => match view S1 v with
  | some (.list ds) => mkL m ds.reverse S1
  | some (.tuple ds) => .ok (.d (.tuple ds.reverse)) S1
  | _ => .bad
@[simp] theorem ap_eRev {m : Bool} {f : Ev} {ρ : Env} {S : Store} : eRev m f ρ S = (f ρ S).bind fun v S1 => match view S1 v with
  | some (.list ds) => mkL m ds.reverse S1
  | some (.tuple ds) => .ok (.d (.tuple ds.reverse)) S1
  | _ => .bad := rfl
theorem de_rev {X : Cx} {W : WX} {e : Expr} {f : Ev} {k : Nat} {p1 p2 p3 pos : Pos} (m : Bool) (h : DE τ X W e f) : DE τ X W (.Subscript e (.Slice none none (some (.UnaryOp .USub (.Constant (.int 1) k p1) p2)) p3) pos) (eRev m f) :=
  ⟨PE.mono (pe_revA h.r) fun σ H Q ⟨φ, F, ρ, S, g, sl, p⟩ => ⟨φ, F, ρ, S, g, sl, PostG.bind g p fun φ1 F1 H1 S1 v x nw1 r1 p1 => by
    split at p1
    · rename_i ds e
      obtain ⟨a, ys, rfl, h1, h2⟩ := ob_of nw1.sg r1 e
      exact ⟨a, ys, rfl, .inl ⟨.inl (.inl h1), Post.newL nw1.sg h2.rev p1⟩⟩
    · rename_i ds e
      obtain ⟨a, ys, rfl, h1, h2⟩ := ob_of nw1.sg r1 e
      exact ⟨a, ys, rfl, .inr ⟨h1.sq, Post.newT nw1.sg h2.rev p1⟩⟩
    · exact p1.elim⟩⟩
def gBad : Fn := fun _ _ => .bad
theorem def_bad {P : Program} {w : World} {K : PySem.W.Frag} {mg : Str → Option Value} {base : Heap} {x y : Str} {st : Stmt} {ps : List Str} {k n : Nat} (Fu : DefF K mg x y st) (hn : ps.length = n)
    (bi : ∀ (kV doc pm : Value) (an : Option Addr) (cdv ct : Value) (us : List Value), us.length = ps.length → bindArgs (PySem.W.fnOf y y (defArgs st) (defBody st) (defScope st) .none kV doc pm an cdv ct) ⟨us, []⟩ = pure (ps.zip us)) : DefOk τ P w K mg base k n x gBad := by
  obtain ⟨f, oc, od, kV, doc, pm, an, cdv, ct, osl, h1, h2, h3, h4⟩ := Fu.ex
  have F := fun_mk (st := st) h2 h3 h4
  subst hn
  refine ⟨f, _, ps, ⟨fun vs H Q E h => h.1, fun B fs s H as us vs Q E _ _ _ _ _ h => ?_⟩, h1, h4, F.binds bi⟩
  obtain ⟨_, φ, F, xs, S, g, r, p⟩ := h
  exact (show False from p).elim
theorem def_rec {P : Program} {w : World} {K : PySem.W.Frag} {mg : Str → Option Value} {base : Heap} {x y : Str} {st : Stmt} {N ps : List Str} {k n : Nat} {b : Fn → Sv} {g : Nat → Fn} (g0 : g 0 = gBad) (gs : ∀ m, g (m + 1) = fnOf N.length (b (g m))) (Fu : DefF K mg x y st) (Sc : FnScope N ps (defScope st)) (hn : ps.length = n)
    (bi : ∀ (kV doc pm : Value) (an : Option Addr) (cdv ct : Value) (us : List Value), us.length = ps.length → bindArgs (PySem.W.fnOf y y (defArgs st) (defBody st) (defScope st) .none kV doc pm an cdv ct) ⟨us, []⟩ = pure (ps.zip us))
    (body : ∀ (m : Nat) (rc : Fn), DefOk τ P w K mg base (k + m) n x rc → ∀ (f : Addr) (cdv : Value) (B : Around) (fs : List PySem.Env) (s : Shared) (H : Hp) (E : XK), Cc (cxD P w K mg base N y st f cdv B fs s H E) (wD E) (k + m) → DB τ (cxD P w K mg base N y st f cdv B fs s H E) (wD E) (defBody st) (b rc)) :
    ∀ m, DefOk τ P w K mg base (k + m) n x (g m)
  | 0 => by rw [g0]; exact def_bad Fu hn bi
  | m + 1 => by
    rw [gs]
    exact def_ok Fu Sc hn bi (body m (g m) (def_rec g0 gs Fu Sc hn bi body m))
def eDic0 (m : Bool) : Ev := fun _ S => mkK m [] S
@[simp] theorem ap_eDic0 {m : Bool} {ρ : Env} {S : Store} : eDic0 m ρ S = mkK m [] S := rfl
theorem de_dic0 {X : Cx} {W : WX} {pos : Pos} (m : Bool) : DE τ X W (.Dict [] [] pos) (eDic0 m) := ⟨PE.mono pe_dnewK fun σ H Q ⟨φ, F, ρ, S, g, sl, p⟩ => Post.newK g .nil p⟩
def rSortL (K : PySem.W.Frag) : List V → Hp → VK → Prop := fun vs H Q => ∃ a xs ds, vs = [.ref a] ∧ SqL K H a xs ∧ DpAll K H xs ds ∧ PyData.plainAll ds = true ∧ PyData.depthAll ds ≤ 60 ∧ sortB ds = true ∧ ds.length ≤ sizeLine ∧
  ∀ ps : List (V × D), ps.Perm (xs.zip ds) → ps.map (·.2) = sortD ds → ∀ l, H l = none → Q (.ref l) (upd H l (.lst (ps.map (·.1))))
theorem each_rel : ∀ {xs : List V} {its : List Value} {ds : List D}, Vals xs its → xs.length = ds.length → PySem.W.EachIs (fun v (b : V × D) => RelV b.1 v) its (xs.zip ds)
  | _, _, [], .nil, _ => .nil
  | _, _, [], .cons _ _, h => by simp at h
  | _, _, d :: ds, .nil, h => by simp at h
  | _, _, d :: ds, .cons r t, h => .cons r (each_rel t (by simpa using h))
theorem each_reads {hp : Heap} : ∀ {xs : List V} {its : List Value} {ds : List D} {as : List Addr}, ReadsAll hp its ds as → xs.length = ds.length → PySem.W.EachIs (fun v (b : V × D) => ∃ as, Reads hp v b.2 as) its (xs.zip ds)
  | [], _, [], _, .nil, _ => .nil
  | x :: xs, _, d :: ds, _, .cons r t, h => .cons ⟨_, r⟩ (each_reads t (by simpa using h))
theorem readsAll_len {hp : Heap} : ∀ {its : List Value} {ds : List D} {as : List Addr}, ReadsAll hp its ds as → its.length = ds.length
  | _, _, _, .nil => rfl
  | _, _, _, .cons _ t => by rw [List.length_cons, List.length_cons, readsAll_len t]
theorem vals_each : ∀ {out : List Value} {bs : List (V × D)}, PySem.W.EachIs (fun v (b : V × D) => RelV b.1 v) out bs → Vals (bs.map (·.1)) out
  | _, _, .nil => .nil
  | _, _, .cons h t => .cons h (vals_each t)
theorem call_sortL {X : Cx} (hu : X.A.units + 64 < cLine) : CallR X (.builtin "sorted") (rSortL X.K) := by
  intro pins s σ H xs us Q I r h
  obtain ⟨a, ys, ds, rfl, hq, hd, hp, hdp, hs, hl, q⟩ := h
  obtain ⟨u, rfl, ru⟩ := vals1 r
  obtain rfl : u = Value.ref a := ru
  obtain ⟨its, rv, p, hz⟩ := I.list hq
  obtain ⟨as, rd⟩ := Dp.readsAll I ds _ its hd rv
  have hlen : ys.length = ds.length := by rw [rv.length, readsAll_len rd]
  have e1 := each_rel (ds := ds) rv hlen
  have e2 := each_reads rd hlen
  have em : (ys.zip ds).map (fun b : V × D => b.2) = ds := by
    rw [show (fun b : V × D => b.2) = Prod.snd from rfl, List.map_snd_zip (by omega)]
  obtain ⟨hal, hk⟩ := sortB_p hs
  have hzl : (ys.zip ds).length = ds.length := by rw [List.length_zip]; omega
  refine PySem.W.sorted_data (bs := ys.zip ds) (enc := fun b => b.2) (R := fun v (b : V × D) => RelV b.1 v) p.isList e1 e2 (by rw [em]; exact hal) (by rw [em]; exact hk) (by rw [hzl]; exact hl) (fun b hb => ?_) fun out ho eo => ?_
  · have hb2 : b.2 ∈ ds := (List.of_mem_zip hb).2
    have := PyData.depth_le_depthAll ds b.2 hb2
    omega
  · obtain ⟨ep, he'⟩ := PyProof.Rows.sortedAll_at s.heap its out.toArray
    have ve := vals_each eo
    have perm : ((ys.zip ds).mergeSort (PySem.W.dataLe false fun b => b.2)).Perm (ys.zip ds) := List.mergeSort_perm _ _
    have le : (((ys.zip ds).mergeSort (PySem.W.dataLe false fun b => b.2)).map (·.1)).length ≤ sizeLine := by rw [List.length_map, perm.length_eq, hzl]; exact hl
    have sm : ((ys.zip ds).mergeSort (PySem.W.dataLe false fun b => b.2)).map (·.2) = sortD ds := by
      unfold sortD
      have q := List.map_mergeSort (r := PySem.W.dataLe false fun b : V × D => b.2) (s := PySem.W.dataLe false fun d : D => d) (f := fun b : V × D => b.2) (l := ys.zip ds) (fun _ _ _ _ => rfl)
      rw [q, em]
    exact ⟨.ref _, _, I.laid (t' := s.toks) (o := .lst _) (fun _ _ => PyProof.Rows.sortedAll_old) (Nat.le_succ _) ⟨le, out, ep, ve, he'⟩, rfl, q _ perm sm _ (I.hok.fresh (Nat.le_succ _))⟩
def fSortL (m : Bool) : Fn := fun vs S => match vs with
  | [v] => match view S v with
    | some (.list ds) => if (seqOk ds && sortB ds && decide (ds.length ≤ sizeLine)) = true then mkL m (sortD ds) S else .bad
    | _ => .bad
  | _ => .bad
theorem fz_of {K : PySem.W.Frag} {F : Addr → Prop} {H : Hp} {xs : List V} {ds : List D} (f : FzAll K F H xs ds) {ps : List (V × D)} (hp : ps.Perm (xs.zip ds)) (he : ps.map (·.2) = sortD ds) : FzAll K F H (ps.map (·.1)) (sortD ds) := by
  have all : ∀ q ∈ ps, Fz K F H q.1 q.2 := fun q hq => by
    obtain ⟨i, hi⟩ := List.mem_iff_getElem?.mp (hp.mem_iff.mp hq)
    rw [List.getElem?_zip_eq_some] at hi
    obtain ⟨v, h3, h4⟩ := f.get hi.2
    rw [hi.1] at h3
    cases h3
    exact h4
  have go : ∀ qs : List (V × D), (∀ q ∈ qs, Fz K F H q.1 q.2) → FzAll K F H (qs.map (·.1)) (qs.map (·.2)) := fun qs => by
    induction qs with
    | nil => intro _; exact .nil
    | cons q qs ih => intro h; exact .cons (h q List.mem_cons_self) (ih fun r hr => h r (List.mem_cons_of_mem _ hr))
  rw [← he]
  exact go ps all
theorem ok_sortL {K : PySem.W.Frag} {mg : Str → Option Value} {m : Bool} : CallOk τ K mg (rSortL K) (fSortL m) := by
  intro φ F H S xs vs Q W g r p
  unfold fSortL at p
  split at p
  · rename_i v
    obtain ⟨x, rfl, r1⟩ := reps1 r
    split at p
    · rename_i ds e
      obtain ⟨a, ys, rfl, h1, h2⟩ := ob_of g r1 e
      by_cases hl : (seqOk ds && sortB ds && decide (ds.length ≤ sizeLine)) = true
      · rw [if_pos hl] at p
        have h3 : (seqOk ds = true ∧ sortB ds = true) ∧ ds.length ≤ sizeLine := by simpa using hl
        obtain ⟨h4, h5⟩ := seqOk_p h3.1.1
        exact ⟨a, ys, ds, rfl, .inl (.inl h1), FzAll.dp _ _ h2 h4, h4, h5, h3.1.2, h3.2, fun ps hp he l hl => Post.newL g (fz_of h2 hp he) p l hl⟩
      · rw [if_neg hl] at p; exact p.elim
    · exact p.elim
  · exact p.elim
def eChain3 (o o' o'' : Vl → Vl → Store → Res Vl) (fa fb fc fd : Ev) : Ev := fun ρ S => (fa ρ S).bind fun a S1 => (fb ρ S1).bind fun b S2 => (o a b S2).bind fun z S3 => match z with
  | .d (.bool k) => if k = true then (fc ρ S3).bind fun c S4 => (o' b c S4).bind fun z' S5 => match z' with
      | .d (.bool k') => if k' = true then (fd ρ S5).bind fun d S6 => o'' c d S6 else .ok (.d (.bool false)) S5
      | _ => .bad
    else .ok (.d (.bool false)) S3
  | _ => .bad
def tChain3 (r r' r'' : R2) (ta tb tc td : TE) : TE := fun σ H Q => ta σ H fun x H1 => tb σ H1 fun y H2 => r x y H2 fun z H3 => ∃ k, z = .bl k ∧
  if k = true then tc σ H3 fun u H4 => r' y u H4 fun z' H5 => ∃ k', z' = .bl k' ∧ if k' = true then td σ H5 fun v H6 => r'' u v H6 Q else Q (.bl false) H5 else Q (.bl false) H3
section
variable {X : Cx} {a b c d : Expr} {ta tb tc td : TE} {pos : Pos} {op op' op'' : CmpOp} {r r' r'' : R2}
theorem pe_chain3 (ho : OpR X (compareOp op) r) (ho' : OpR X (compareOp op') r') (ho'' : OpR X (compareOp op'') r'') (ha : PE X a ta) (hb : PE X b tb) (hc : PE X c tc) (hd : PE X d td) (hm : lastMarks [op, op', op''] [b, c, d] = false) :
    PE X (.Compare a [op, op', op''] [b, c, d] pos) (tChain3 r r' r'' ta tb tc td) := by
  refine ⟨fun pins s σ H Q I h => ?_⟩
  refine Compare_chain (thn (ha.run pins s σ H _ I h) fun v s1 ⟨x, H1, I1, r1, q1⟩ => chain_link (thn (hb.run pins s1 σ H1 _ I1 q1) fun u s2 ⟨y, H2, I2, r2, q2⟩ =>
    thn (ho pins s2 σ H2 x y v u _ I2 r1 r2 q2) fun _ s3 ⟨z, H3, I3, r3, k, e, q3⟩ => ?_)) hm
  subst e
  cases r3
  refine wpAny_truthy_bool ?_
  cases k with
  | false => exact ite_ff ⟨.bl false, H3, I3, rfl, q3⟩
  | true =>
    refine ite_tt (chain_link (thn (hc.run pins s3 σ H3 _ I3 q3) fun w' s4 ⟨z', H4, I4, r4, q4⟩ => thn (ho' pins s4 σ H4 y z' u w' _ I4 r2 r4 q4) fun _ s5 ⟨z2, H5, I5, r5, k2, e2, q5⟩ => ?_))
    subst e2
    cases r5
    refine wpAny_truthy_bool ?_
    cases k2 with
    | false => exact ite_ff ⟨.bl false, H5, I5, rfl, q5⟩
    | true => exact ite_tt (chain_last (thn (hd.run pins s5 σ H5 _ I5 q5) fun w2 s6 ⟨z3, H6, I6, r6, q6⟩ => ho'' pins s6 σ H6 z' z3 w' w2 Q I6 r4 r6 q6))
theorem pt_chain3 (ho : OpR X (compareOp op) r) (ho' : OpR X (compareOp op') r') (ho'' : OpR X (compareOp op'') r'') (ha : PE X a ta) (hb : PE X b tb) (hc : PE X c tc) (hd : PE X d td) (hm : lastMarks [op, op', op''] [b, c, d] = false) :
    PT X (.Compare a [op, op', op''] [b, c, d] pos) (tTest (tChain3 r r' r'' ta tb tc td)) := by
  refine ⟨fun pins s σ H Q I h => ?_⟩
  refine isTrue_chain (thn (ha.run pins s σ H _ I h) fun v s1 ⟨x, H1, I1, r1, q1⟩ => test_link (thn (hb.run pins s1 σ H1 _ I1 q1) fun u s2 ⟨y, H2, I2, r2, q2⟩ =>
    thn (ho pins s2 σ H2 x y v u _ I2 r1 r2 q2) fun _ s3 ⟨z, H3, I3, r3, k, e, q3⟩ => ?_)) hm
  subst e
  cases r3
  refine wpAny_truthy_bool ?_
  cases k with
  | false =>
    obtain ⟨k', e', q'⟩ := q3
    cases e'
    exact ite_ff ⟨H3, I3, q'⟩
  | true =>
    refine ite_tt (test_link (thn (hc.run pins s3 σ H3 _ I3 q3) fun w' s4 ⟨z', H4, I4, r4, q4⟩ => thn (ho' pins s4 σ H4 y z' u w' _ I4 r2 r4 q4) fun _ s5 ⟨z2, H5, I5, r5, k2, e2, q5⟩ => ?_))
    subst e2
    cases r5
    refine wpAny_truthy_bool ?_
    cases k2 with
    | false =>
      obtain ⟨k', e', q'⟩ := q5
      cases e'
      exact ite_ff ⟨H5, I5, q'⟩
    | true =>
      refine ite_tt (test_last (thn (hd.run pins s5 σ H5 _ I5 q5) fun w2 s6 ⟨z3, H6, I6, r6, q6⟩ => thn (ho'' pins s6 σ H6 z' z3 w' w2 _ I6 r4 r6 q6) fun _ s7 ⟨z4, H7, I7, r7, k3, e3, q7⟩ => ?_))
      subst e3
      cases r7
      exact wpAny_truthy_bool ⟨H7, I7, q7⟩
end
section
variable {X : Cx} {W : WX} {a b c d : Expr} {fa fb fc fd : Ev} {pos : Pos} {op op' op'' : CmpOp} {r r' r'' : R2} {o o' o'' : Vl → Vl → Store → Res Vl}
theorem rechain3 (ok : OpOk τ X.K X.mg r o) (ok' : OpOk τ X.K X.mg r' o') (ok'' : OpOk τ X.K X.mg r'' o'') {σ : L2.St} {H : Hp} {Q : VK} (h : RE τ X.K X.mg W (eChain3 o o' o'' fa fb fc fd) σ H Q) : tChain3 r r' r'' (RE τ X.K X.mg W fa) (RE τ X.K X.mg W fb) (RE τ X.K X.mg W fc) (RE τ X.K X.mg W fd) σ H Q := by
  obtain ⟨φ, F, ρ, S, g, sl, p⟩ := h
  refine ⟨φ, F, ρ, S, g, sl, PostG.bind g p fun φ1 F1 H1 S1 v x nw1 r1 p1 => ⟨φ1, F1, ρ, S1, nw1.sg, sl.now nw1, PostG.bind nw1.sg p1 fun φ2 F2 H2 S2 u y nw2 r2 p2 => ?_⟩⟩
  refine ok nw2.sg (r1.now nw2) r2 (PostG.bind (R' := RepV X.K X.mg) nw2.sg p2 fun φ3 F3 H3 S3 z zv nw3 r3 p3 => ?_)
  have sl3 := ((sl.now nw1).now nw2).now nw3
  cases z with
  | d zd =>
    cases zd with
    | bool kb =>
      cases r3
      refine ⟨kb, rfl, ?_⟩
      cases kb with
      | true =>
        simp only [if_true] at p3 ⊢
        refine ⟨φ3, F3, ρ, S3, nw3.sg, sl3, PostG.bind nw3.sg p3 fun φ4 F4 H4 S4 w q nw4 r4 p4 => ?_⟩
        refine ok' nw4.sg ((r2.now nw3).now nw4) r4 (PostG.bind (R' := RepV X.K X.mg) nw4.sg p4 fun φ5 F5 H5 S5 z2 zv2 nw5 r5 p5 => ?_)
        cases z2 with
        | d zd2 =>
          cases zd2 with
          | bool kb2 =>
            cases r5
            refine ⟨kb2, rfl, ?_⟩
            cases kb2 with
            | true =>
              simp only [if_true] at p5 ⊢
              exact ⟨φ5, F5, ρ, S5, nw5.sg, (sl3.now nw4).now nw5, PostG.bind nw5.sg p5 fun φ6 F6 H6 S6 w2 q2 nw6 r6 p6 => ok'' nw6.sg ((r4.now nw5).now nw6) r6 p6⟩
            | false => exact Post.ok nw5.sg p5 (.bl false)
          | _ => exact p5.elim
        | _ => exact p5.elim
      | false => exact Post.ok nw3.sg p3 (.bl false)
    | _ => exact p3.elim
  | _ => exact p3.elim
theorem de_chain3 (ho : OpR X (compareOp op) r) (ok : OpOk τ X.K X.mg r o) (ho' : OpR X (compareOp op') r') (ok' : OpOk τ X.K X.mg r' o') (ho'' : OpR X (compareOp op'') r'') (ok'' : OpOk τ X.K X.mg r'' o'') (ha : DE τ X W a fa) (hb : DE τ X W b fb) (hc : DE τ X W c fc) (hd : DE τ X W d fd)
    (hm : lastMarks [op, op', op''] [b, c, d] = false := by rfl) : DE τ X W (.Compare a [op, op', op''] [b, c, d] pos) (eChain3 o o' o'' fa fb fc fd) := ⟨PE.mono (pe_chain3 ho ho' ho'' ha.r hb.r hc.r hd.r hm) fun _ _ _ h => rechain3 ok ok' ok'' h⟩
theorem dt_chain3 (ho : OpR X (compareOp op) r) (ok : OpOk τ X.K X.mg r o) (ho' : OpR X (compareOp op') r') (ok' : OpOk τ X.K X.mg r' o') (ho'' : OpR X (compareOp op'') r'') (ok'' : OpOk τ X.K X.mg r'' o'') (ha : DE τ X W a fa) (hb : DE τ X W b fb) (hc : DE τ X W c fc) (hd : DE τ X W d fd)
    (hm : lastMarks [op, op', op''] [b, c, d] = false := by rfl) : DT τ X W (.Compare a [op, op', op''] [b, c, d] pos) (tOf (eChain3 o o' o'' fa fb fc fd)) := ⟨PT.mono (pt_chain3 ho ho' ho'' ha.r hb.r hc.r hd.r hm) fun _ _ _ h => tof h fun _ h => rechain3 ok ok' ok'' h⟩
@[simp] theorem ap_eChain3 {ρ : Env} {S : Store} : eChain3 o o' o'' fa fb fc fd ρ S = (fa ρ S).bind fun a S1 => (fb ρ S1).bind fun b S2 => (o a b S2).bind fun z S3 => match z with
  | .d (.bool k) => if k = true then (fc ρ S3).bind fun c S4 => (o' b c S4).bind fun z' S5 => match z' with
      | .d (.bool k') => if k' = true then (fd ρ S5).bind fun d S6 => o'' c d S6 else .ok (.d (.bool false)) S5
      | _ => .bad
    else .ok (.d (.bool false)) S3
  | _ => .bad := rfl
end
def tysOf : List Vl → Option (List Ty)
  | [] => some []
  | .ty T :: vs => (tysOf vs).map fun Ts => T :: Ts
  | _ => none
def eTys (f : Av) : Ev := fun ρ S => (f ρ S).bind fun vs S1 => match tysOf vs with
  | some Ts => if Ts.length ≤ 1000 then .ok (.tys Ts) S1 else .bad
  | none => .bad
@[simp] theorem ap_eTys {f : Av} {ρ : Env} {S : Store} : eTys f ρ S = (f ρ S).bind fun vs S1 => match tysOf vs with
  | some Ts => if Ts.length ≤ 1000 then .ok (.tys Ts) S1 else .bad
  | none => .bad := rfl
theorem tys_of {K : PySem.W.Frag} {mg : Str → Option Value} {φ : Nat → Addr} {F : Addr → Prop} {H : Hp} {n : Nat} : ∀ {xs : List V} {vs : List Vl} {Ts : List Ty}, RepVs K mg φ F H n xs vs → tysOf vs = some Ts → xs = Ts.map fun T => V.ty T.name
  | [], [], Ts, _, h => by cases h; rfl
  | x :: xs, v :: vs, Ts, r, h => by
    cases v with
    | ty T =>
      simp only [tysOf, Option.map_eq_some_iff] at h
      obtain ⟨Us, h1, rfl⟩ := h
      rw [tys_of r.2 h1, show x = V.ty T.name from r.1]
      rfl
    | _ => simp [tysOf] at h
  | [], _ :: _, _, r, _ => r.elim
  | _ :: _, [], _, r, _ => r.elim
theorem de_tys {X : Cx} {W : WX} {es : List Expr} {fs : Av} {kk : Nat} {pos : Pos} (h : DA τ X W es fs) : DE τ X W (.Tuple es kk pos) (eTys fs) := ⟨PE.mono (pe_tup h.r) fun σ H Q ⟨φ, F, ρ, S, g, sl, p⟩ => ⟨φ, F, ρ, S, g, sl, PostG.bind g p fun φ1 F1 H1 S1 vs xs nw1 r1 p1 => by
  split at p1
  · rename_i Ts q
    by_cases hl : Ts.length ≤ 1000
    · rw [if_pos hl] at p1
      have ex := tys_of r1 q
      subst ex
      refine ⟨by rw [List.length_map]; exact line1000 hl, fun t ht => ?_⟩
      have nw2 := nw1.sg.fresh (o := .tup (Ts.map fun T => V.ty T.name)) ht
      exact PostG.start nw1.sg nw2 p1 _ _ _ (.refl nw2.sg) _ ⟨t, rfl, .inr rfl, upd_same⟩
    · rw [if_neg hl] at p1; exact p1.elim
  · exact p1.elim⟩⟩
def dropI (i : Nat) : SRes → SRes
  | .nx ρ S => .nx (ρ.set i none) S
  | .bk ρ S => .bk (ρ.set i none) S
  | .ct ρ S => .ct (ρ.set i none) S
  | .ret v S => .ret v S
  | _ => .bad
open Classical in
noncomputable def pickA (f : Addr → SRes) : SRes := if h : ∃ r, ∀ a, f a = r then Classical.choose h else .bad
theorem pickA_of {f : Addr → SRes} {r : SRes} (h : ∀ a, f a = r) : pickA f = r := by
  have ex : ∃ r, ∀ a, f a = r := ⟨r, h⟩
  unfold pickA
  rw [dif_pos ex]
  exact (Classical.choose_spec ex 0).symm.trans (h 0)
theorem pickA_at {f : Addr → SRes} (h : pickA f ≠ .bad) (a : Addr) : f a = pickA f := by
  by_cases ex : ∃ r, ∀ a, f a = r
  · unfold pickA
    rw [dif_pos ex]
    exact Classical.choose_spec ex a
  · exact absurd (by unfold pickA; rw [dif_neg ex]) h
noncomputable def sTryAs (i : Nat) (body : Sv) (sub : Str → Option Bool) (suite : Addr → Xn → Sv) : Sv := fun ρ S => match body ρ S with
  | .ex x ρ1 S1 => match sub x.cls with
    | some true => if x.fs.isEmpty = true then pickA fun a => dropI i (suite a x (ρ1.set i (some (.xa a))) S1) else .bad
    | some false => .ex x ρ1 S1
    | none => .bad
  | r => r
section
variable {X : Cx} {W : WX} {k i : Nat} {x n : Str} {c : Value} {body suite : List Stmt} {b₀ : Stmt} {np pos pos' : Pos} {fb : Sv} {sub : Str → Option Bool} {fs : Addr → Xn → Sv}
theorem Cc.tr {W' : WX} {pn : List (Addr × Obj)} {xe : Value → Shared → Prop} (cc : Cc X W k) (tk : Takes (X.tr pn xe) W') (po : PassesOwn (model X.prog X.w) X.A X.env xe) : Cc (X.tr pn xe) W' k := ⟨cc.calm, cc.nd, tk, cc.rm, po, cc.gd⟩
theorem drop_ends {τ : Tb} {K : PySem.W.Frag} {mg : Str → Option Value} {m : Nat} {φ : Nat → Addr} {F : Addr → Prop} {H : Hp} {D : Ends} {r : SRes} {W' : WX} (p : PostS τ K mg W' m φ F H D (dropI i r)) :
    PostS τ K mg W0 m φ F H { nx := fun σ' H' => D.nx (σ'.set i none) H', rt := D.rt, bk := fun σ' H' => D.bk (σ'.set i none) H', ct := fun σ' H' => D.ct (σ'.set i none) H' } r := by
  have un : ∀ {φ' : Nat → Addr} {F' : Addr → Prop} {H' : Hp} {n : Nat} {σ' : L2.St} {ρ : Env}, Slots K mg φ' F' H' n σ' ρ → Slots K mg φ' F' H' n (σ'.set i none) (ρ.set i none) := fun {φ' F' H' n σ' ρ} h => by
    have := h.wiped [i]
    simpa [L2.wipe, wipeE] using this
  cases r with
  | nx ρ S' => exact fun φ' F' H' nw σ' sl => p φ' F' H' nw _ (un sl)
  | bk ρ S' => exact fun φ' F' H' nw σ' sl => p φ' F' H' nw _ (un sl)
  | ct ρ S' => exact fun φ' F' H' nw σ' sl => p φ' F' H' nw _ (un sl)
  | ret v S' => exact fun φ' F' H' nw x rx => p φ' F' H' nw x rx
  | ex e ρ S' => exact (show False from p).elim
  | bad => exact (show False from p).elim
theorem ds_tryAs (cc : Cc X W k) (hi : X.N[i]? = some n) (hln : X.env.kindOf n = some .local) (hc : Names X x c) (hsub : ∀ (y : Str) (cls : Value) (b : Bool), X.mg y = some cls → sub y = some b → PySem.W.exmOne X.K cls c = some b)
    (hb : ∀ (W' : WX) (pn : List (Addr × Obj)) (xe : Value → Shared → Prop), Takes (X.tr pn xe) W' → PassesOwn (model X.prog X.w) X.A X.env xe → DB τ (X.tr pn xe) W' body fb)
    (hsu : ∀ (a : Addr) (oe : Obj) (y : Xn) (cls : Value) (pn : List (Addr × Obj)), X.mg y.cls = some cls → sub y.cls = some true → y.fs = [] → Zc cls none oe → (∃ vs, oe.data = .fields vs) → PSs (X.suite a ((a, oe) :: pn)) (b₀ :: suite) (RS τ X.K X.mg W0 (fs a y)))
    (hs : X.stack = X.env :: X.outer := by rfl) (hf : X.env.frame = some X.env.locals := by rfl) :
    DS τ X W (.Try body [.ExceptHandler (some (.Name x np)) (some n) (b₀ :: suite) pos'] [] [] pos) (sTryAs i fb sub fs) := by
  refine ⟨PS.mono (ps_try_as (i := i) (c := c) (Wout := W) (tb := fun W' => RS τ X.K X.mg W' fb)
    (ts := fun a cls d E σ H => d = none ∧ ∃ y : Xn, X.mg y.cls = some cls ∧ sub y.cls = some true ∧ y.fs = [] ∧ RS τ X.K X.mg W0 (fs a y) E σ H) hs hf cc.nd hi hln hc cc.tk (fun W' pn xe tk po => (hb W' pn xe tk po).r)
    fun a oe cls d pn hz hv => ⟨fun pins s σ H D I ⟨hd, y, h1, h2, h3, h4⟩ => by subst hd; exact (hsu a oe y cls pn h1 h2 h3 hz hv).run pins s σ H D I h4⟩) fun E σ H ⟨φ, F, ρ, S, g, sl, p⟩ => ?_⟩
  refine ⟨φ, F, ρ, S, g, sl, ?_⟩
  unfold sTryAs at p
  cases e : fb ρ S with
  | nx ρ1 S1 => rw [e] at p; exact p
  | ret v S1 => rw [e] at p; exact p
  | bk ρ1 S1 => rw [e] at p; exact p
  | ct ρ1 S1 => rw [e] at p; exact p
  | bad => rw [e] at p; exact p
  | ex y ρ1 S1 =>
    rw [e] at p
    intro φ1 F1 H1 nw cls od rx σ1 sl1
    cases es : sub y.cls with
    | none => simp only [es] at p; exact (show False from p).elim
    | some b =>
      refine ⟨b, hsub _ _ _ rx.1 es, fun hb a ha => ?_, fun hb => ?_⟩
      · subst hb
        simp only [es] at p
        by_cases hem : y.fs.isEmpty = true
        case neg => rw [if_neg hem] at p; exact (show False from p).elim
        rw [if_pos hem] at p
        have hne : pickA (fun a => dropI i (fs a y (ρ1.set i (some (.xa a))) S1)) ≠ .bad := fun z => by rw [z] at p; exact p
        have ea := pickA_at hne a
        rw [← ea] at p
        have p1 := PostS.start g nw p
        have hfs : y.fs = [] := List.isEmpty_iff.mp hem
        have hod : od = none := by
          have := rx.2
          rw [hfs] at this
          exact this
        exact ⟨hod, y, rx.1, es, hfs, φ1, F1, _, S1, nw.sg, sl1.set (x := .xa a) rfl, drop_ends p1⟩
      · subst hb
        simp only [es] at p
        exact p φ1 F1 H1 nw cls od rx σ1 sl1
end
def eIsE (i : Nat) (a : Addr) (b : Bool) : Ev := fun ρ S => match ρ[i]? with
  | some (some (.xa a')) => if a' = a then .ok (.d (.bool b)) S else .bad
  | _ => .bad
@[simp] theorem ap_eIsE {i : Nat} {a : Addr} {b : Bool} {ρ : Env} {S : Store} : eIsE i a b ρ S = match ρ[i]? with
  | some (some (.xa a')) => if a' = a then .ok (.d (.bool b)) S else .bad
  | _ => .bad := rfl
theorem de_isE {X : Cx} {a D : Addr} {oe : Obj} {pn : List (Addr × Obj)} {n : Str} {i : Nat} {e2 : Expr} {c : V} {cv : Value} {b : Bool} {p p1 pos : Pos} (C : ExcC X.K D) (hz : Zc (.ref D) none oe) (hf : ∃ vs, oe.data = .fields vs) (hN : X.N[i]? = some n) (hvis : Vis X.env.scope n)
    (he2 : PE (X.suite a ((a, oe) :: pn)) e2 (tC c)) (hcv : ∀ u, RelV c u → u = cv) (hk : PySem.W.kitOne X.K (.ref D) cv = some b) (hg : Gl X "isinstance") (hm : X.mg "isinstance" = none)
    (hd : (n == ("__debug__" : Str)) = false := by decide) (hcd : (n == ("__classdict__" : Str)) = false := by decide)
    (h1 : starEach [.Name n p1, e2] X.env = (false, eval (.Name n p1) X.env) :: starEach [e2] X.env := by rfl) (h2 : starEach [e2] X.env = (false, eval e2 X.env) :: starEach [] X.env := by rfl) (h3 : (backTo pos (starEach [e2] X.env)).any (·.1) = false := by rfl) :
    DE τ (X.suite a ((a, oe) :: pn)) W0 (.Call (.Name "isinstance" p) [.Name n p1, e2] [] pos) (eIsE i a b) :=
  ⟨PE.mono (pe_callB (call_isE C hz hf) hg hm bb_isinstance (pa_cons (pe_var hN hvis hd hcd) (pa_cons he2 pa_nil h2) h1) (by decide) (by decide) h1 h3) fun σ H Q ⟨φ, F, ρ, S, g, sl, q⟩ => by
    unfold eIsE at q
    split at q
    · rename_i a' e
      by_cases ea : a' = a
      · subst ea
        rw [if_pos rfl] at q
        obtain ⟨v, hv1, hv2⟩ := sl.2 i _ e
        obtain rfl : v = .ref a' := hv2
        exact ⟨_, hv1, c, cv, b, rfl, hcv, hk, Post.ok g q (.bl b)⟩
      · rw [if_neg ea] at q; exact q.elim
    · exact q.elim⟩
def rFind (K : PySem.W.Frag) (k : List D → D → VK → Hp → Prop) : V → List V → Hp → VK → Prop := fun x vs H Q => ∃ a xs ds y d, x = .ref a ∧ vs = [y] ∧ SqL K H a xs ∧ DpAll K H xs ds ∧ Dp K H y d ∧ PyData.plainAll ds = true ∧ PyData.depthAll ds ≤ 60 ∧ d.plain = true ∧ k ds d Q H
def kCount (ds : List D) (d : D) (Q : VK) (H : Hp) : Prop := Q (.int ((ds.countP fun z => PyData.eqv z d : Nat) : Int)) H
def kIndex (ds : List D) (d : D) (Q : VK) (H : Hp) : Prop := ∃ j, SeqAt.dataPlace ds d = some j ∧ Q (.int (j : Nat)) H
theorem mt_countX {X : Cx} (hu : X.A.units + 64 < cLine) : MtR X "list.count" (rFind X.K kCount) := by
  intro pins s σ H x vs v us Q I rx rv h
  obtain ⟨a, xs, ds, y, d, rfl, rfl, hq, hd, hy, h1, h2, h3, q⟩ := h
  cases rx
  obtain ⟨u, rfl, ru⟩ := vals1 rv
  obtain ⟨its, r, p, hz⟩ := I.list hq
  obtain ⟨as, rd⟩ := Dp.readsAll I ds _ its hd r
  obtain ⟨bs, ry⟩ := Dp.reads I d y u hy ru
  exact SeqAt.count_list_data p.isList (by simpa using rd) ry h1 h3 (by omega) ⟨.int _, H, I.kept (t' := s.toks + 1) fun _ _ z => z, ⟨_, rfl⟩, q⟩
theorem mt_indexX {X : Cx} (hu : X.A.units + 64 < cLine) : MtR X "list.index" (rFind X.K kIndex) := by
  intro pins s σ H x vs v us Q I rx rv h
  obtain ⟨a, xs, ds, y, d, rfl, rfl, hq, hd, hy, h1, h2, h3, j, hj, q⟩ := h
  cases rx
  obtain ⟨u, rfl, ru⟩ := vals1 rv
  obtain ⟨its, r, p, hz⟩ := I.list hq
  obtain ⟨as, rd⟩ := Dp.readsAll I ds _ its hd r
  obtain ⟨bs, ry⟩ := Dp.reads I d y u hy ru
  have rd2 : ReadsAll s.heap its.toArray.toList ds as := by simpa using rd
  obtain ⟨hj1, hit, hno⟩ := SeqAt.hit_at rd2 h1 hj
  obtain ⟨⟨cls, dd, data, sl⟩, ho, hc, n, hd'⟩ := p.isList
  simp only at hc hd'
  subst hc hd'
  have small : (j : Int) < 2 ^ 63 - 1 := by
    have e1 : its.toArray.size = xs.length := by rw [List.size_toArray]; exact r.length.symm
    have e2 : sizeLine = 16777216 := by decide
    omega
  exact call_meets F.slot_list_index ⟨_, ho, rfl⟩ F.entry_list_index (F.args_list_index_2 _ _) (SeqAt.list_indexAt a its.toArray n dd sl u _ j hj1 small hit hno)
    ⟨ho, SeqAt.items_plain rd2 ry h1 h3 (by omega), ⟨.int _, H, I.kept (t' := s.toks + 1) fun _ _ z => z, ⟨_, rfl⟩, q⟩⟩
def lstOf (S : Store) (v : Vl) : Option (List D) := match view S v with
  | some (.list ds) => some ds
  | _ => none
def findOk (ds : List D) (d : D) : Bool := seqOk ds && d.plain
def vCount (v u : Vl) (S : Store) : Res Vl := match lstOf S v, view S u with
  | some ds, some d => if findOk ds d = true then .ok (.d (.int ((ds.countP fun z => PyData.eqv z d : Nat) : Int))) S else .bad
  | _, _ => .bad
def vIndex (v u : Vl) (S : Store) : Res Vl := match lstOf S v, view S u with
  | some ds, some d => if findOk ds d = true then match SeqAt.dataPlace ds d with
      | some j => .ok (.d (.int (j : Nat))) S
      | none => .bad
    else .bad
  | _, _ => .bad
def eMet (o : Vl → Vl → Store → Res Vl) (fo fe : Ev) : Ev := fun ρ S => (fo ρ S).bind fun v S1 => if (lstOf S1 v).isSome = true then (fe ρ S1).bind fun u S2 => o v u S2 else .bad
@[simp] theorem ap_eMet {o : Vl → Vl → Store → Res Vl} {fo fe : Ev} {ρ : Env} {S : Store} : eMet o fo fe ρ S = (fo ρ S).bind fun v S1 => if (lstOf S1 v).isSome = true then (fe ρ S1).bind fun u S2 => o v u S2 else .bad := rfl
def MetOk (τ : Tb) (K : PySem.W.Frag) (mg : Str → Option Value) (r : V → List V → Hp → VK → Prop) (o : Vl → Vl → Store → Res Vl) : Prop :=
  ∀ {φ : Nat → Addr} {F : Addr → Prop} {H : Hp} {S : Store} {x y : V} {v u : Vl} {Q : VK} {W : XW}, SG τ K φ F H S → RepV K mg φ F H S.length x v → RepV K mg φ F H S.length y u → Post τ K mg W S.length φ F H Q (o v u S) → r x [y] H Q
theorem find_ok {K : PySem.W.Frag} {mg : Str → Option Value} {k : List D → D → VK → Hp → Prop} {o : Vl → Vl → Store → Res Vl} {g : List D → D → Store → Res Vl} (ho : ∀ v u S, o v u S = match lstOf S v, view S u with
      | some ds, some d => if findOk ds d = true then g ds d S else .bad
      | _, _ => .bad)
    (hk : ∀ {φ : Nat → Addr} {F : Addr → Prop} {H : Hp} {S : Store} {ds : List D} {d : D} {Q : VK} {W : XW}, SG τ K φ F H S → Post τ K mg W S.length φ F H Q (g ds d S) → k ds d Q H) : MetOk τ K mg (rFind K k) o := by
  intro φ F H S x y v u Q W sg r1 r2 p
  rw [ho] at p
  split at p
  · rename_i ds d e1 e2
    by_cases hf : findOk ds d = true
    · rw [if_pos hf] at p
      have hf2 : seqOk ds = true ∧ d.plain = true := by simpa [findOk] using hf
      obtain ⟨h1, h2⟩ := seqOk_p hf2.1
      unfold lstOf at e1
      split at e1
      · rename_i ds' ev
        cases e1
        obtain ⟨a, xs, rfl, h3, h4⟩ := ob_of sg r1 ev
        exact ⟨a, xs, ds, y, d, rfl, rfl, .inl (.inl h3), FzAll.dp _ _ h4 h1, (ob_of sg r2 e2).dp hf2.2, h1, h2, hf2.2, hk sg p⟩
      · cases e1
    · rw [if_neg hf] at p; exact p.elim
  · exact p.elim
theorem ok_count {K : PySem.W.Frag} {mg : Str → Option Value} : MetOk τ K mg (rFind K kCount) vCount := find_ok (g := fun ds d S => .ok (.d (.int ((ds.countP fun z => PyData.eqv z d : Nat) : Int))) S) (fun _ _ _ => rfl) fun {φ F H S ds d Q W} g p => show Q (.int _) H from Post.ok g p (.int _)
theorem ok_index {K : PySem.W.Frag} {mg : Str → Option Value} : MetOk τ K mg (rFind K kIndex) vIndex := find_ok (g := fun ds d S => match SeqAt.dataPlace ds d with
      | some j => .ok (.d (.int (j : Nat))) S
      | none => .bad) (fun _ _ _ => rfl) fun {φ F H S ds d Q W} g p => by
  cases e : SeqAt.dataPlace ds d with
  | none => rw [e] at p; exact p.elim
  | some j => rw [e] at p; exact ⟨j, e, Post.ok g p (.int _)⟩
theorem de_met {X : Cx} {W : WX} {o e : Expr} {fo fe : Ev} {apos cpos : Pos} {name : Str} {id : String} {r : V → List V → Hp → VK → Prop} {ov : Vl → Vl → Store → Res Vl} (slot : Slot "list" name id) (hty : typeOf (.builtin id) = pure (.type "method_descriptor")) (hm : MtR X id r) (ok : MetOk τ X.K X.mg r ov) (ho : DE τ X W o fo) (ha : DA τ X W [e] (aCons fe aNil))
    (hbase : attributeBase o name X.env (eval o X.env) = eval o X.env := by rfl)
    (hfew : ((backTo cpos (starEach [e] X.env)).all (fun x => !x.1) && (backToKw cpos (keywordEach [] X.env)).all (fun x => x.1.isSome) && decide ([e].length + ([] : List Keyword).length + (if ([] : List Keyword).isEmpty then 0 else 1) < 30)) = true := by rfl)
    (hline : (apos.endLine == cpos.line) = true := by rfl) (hs : starEach [e] X.env = (false, eval e X.env) :: starEach [] X.env := by rfl) (hplain : (backTo cpos (starEach [] X.env)).any (·.1) = false := by rfl) :
    DE τ X W (.Call (.Attribute o name apos) [e] [] cpos) (eMet ov fo fe) :=
  ⟨PE.mono (pe_bm PySem.F.plainAttrs_list slot hty hm ho.r ha.r hbase hfew hline hs hplain) fun σ H Q ⟨φ, F, ρ, S, g, sl, p⟩ => ⟨φ, F, ρ, S, g, sl, PostG.bind g p fun φ1 F1 H1 S1 v x nw1 r1 p1 => by
    by_cases hl : (lstOf S1 v).isSome = true
    · rw [if_pos hl] at p1
      have ty : tyV X.K "list" x H1 := by
        unfold lstOf at hl
        split at hl
        · rename_i ds ev
          obtain ⟨a, xs, rfl, h3, h4⟩ := ob_of nw1.sg r1 ev
          exact .inl ⟨rfl, xs, .inl (.inl h3)⟩
        · cases hl
      exact ⟨ty, da_one ⟨φ1, F1, ρ, S1, nw1.sg, sl.now nw1, PostG.bind nw1.sg p1 fun φ2 F2 H2 S2 u y nw2 r2 p2 => ok nw2.sg (r1.now nw2) r2 p2⟩⟩
    · rw [if_neg hl] at p1; exact p1.elim⟩⟩
def fReprX : Fn := fun vs S => match vs with
  | [v] => match view S v with
    | some (.dict []) => .ok (.d (.str (PyData.shown (.dict [])))) S
    | _ => fRepr [v] S
  | _ => .bad
def rDic0 : List V → Hp → VK → Prop := fun vs H Q => ∃ a, vs = [.ref a] ∧ H a = some (.dK []) ∧ Q (.str (PyData.shown (.dict []))) H
theorem call_dic0 {X : Cx} (hg : X.A.guards = some []) (hu : X.A.units + 64 < cLine) : CallR X (.builtin "repr") rDic0 := by
  intro pins s σ H xs us Q I r h
  obtain ⟨a, rfl, ha, q⟩ := h
  obtain ⟨u, rfl, ru⟩ := vals1 r
  obtain rfl : u = Value.ref a := ru
  obtain ⟨hz, hS, vs, rel, o, es, ep, e1, ex, e2, ks, prs, nd⟩ : ([] : List (Key × V)).length ≤ sizeLine ∧ (a == sysModules) = false ∧ ∃ vs, KV [] vs ∧ s.heap.DictOf (mixKind X.prog X.w) a vs := I.hok a _ ha
  have hvs : vs = [] := by cases rel; rfl
  subst hvs
  have hes : es.toList = [] := by
    cases h : es.toList with
    | nil => rfl
    | cons x xs => rw [h] at prs; cases prs
  have rd : Reads s.heap (.ref a) (.dict []) [a] := .dict (as := []) (bs := []) e1 ex.1 e2 (by rw [hes]; exact .nil) (by rw [hes]; exact .nil)
  have na : sysModules ∉ [a] := fun z => by
    have e : sysModules = a := by simpa using z
    rw [e] at hS
    simp at hS
  exact repr_of_reads' rd rfl (fun _ => na) hg (by have : (PyData.dict []).depth = 1 := by simp [PyData.depth, PyData.depthKv]
                                                   omega) (fun _ _ e => e) (fun h' u tk hk => ⟨.str _, H, I.kept hk, ⟨_, rfl⟩, q⟩) (by decide)
theorem ok_reprX {K : PySem.W.Frag} {mg : Str → Option Value} : CallOk τ K mg (fun xs H Q => rRepr K xs H Q ∨ rDic0 xs H Q) fReprX := by
  intro φ F H S xs vs Q W g r p
  unfold fReprX at p
  split at p
  · rename_i v
    split at p
    · rename_i e
      obtain ⟨x, rfl, r1⟩ := reps1 r
      obtain ⟨a, kvs, rfl, h1, h2⟩ := ob_of g r1 e
      cases h2
      exact .inr ⟨a, rfl, h1, Post.ok g p (.str _)⟩
    · exact .inl (ok_repr g r p)
  · exact p.elim
theorem call_reprA {X : Cx} (hg : X.A.guards = some []) (hu : X.A.units + 64 < cLine) : CallR X (.builtin "repr") (fun xs H Q => rRepr X.K xs H Q ∨ rDic0 xs H Q) := (call_reprX hg hu).or (call_dic0 hg hu)
theorem reprX_plain {d : D} {S : Store} (h : d.plain = true) : fReprX [.d d] S = fRepr [.d d] S := by
  cases d <;> first | rfl | simp [PyData.plain] at h
theorem rp_reprX {n k : Nat} {d : D} {S : Store} (h : Rp n k d) (hn : n ≤ 16777216) (hk : k ≤ 60) : fReprX [.d d] S = .ok (.d (.str d.shown)) S := by
  rw [reprX_plain h.pl, rp_repr h hn hk]
@[simp] theorem reprX_dic0 {S : Store} : fReprX [.d (.dict [])] S = .ok (.d (.str (PyData.shown (.dict [])))) S := rfl
noncomputable def eAct (p : LamP) (fe : Store → Res Vl) : Ev := fun ρ S => match ρ[0]? with
  | some (some (Vl.lam q)) => open Classical in if q = p then fe S else .bad
  | _ => .bad
@[simp] theorem ap_eAct {p : LamP} {fe : Store → Res Vl} {ρ : Env} {S : Store} (h : ρ[0]? = some (some (Vl.lam p))) : eAct p fe ρ S = fe S := by
  unfold eAct
  rw [h]
  exact if_pos rfl
theorem act_ne {p : LamP} {fe : Store → Res Vl} {ρ : Env} {S : Store} (h : eAct p fe ρ S ≠ .bad) : ρ[0]? = some (some (Vl.lam p)) := by
  unfold eAct at h
  split at h
  · rename_i q e
    by_cases z : q = p
    · rw [e, z]
    · rw [if_neg z] at h; exact absurd rfl h
  · exact absurd rfl h
open Classical in
noncomputable def pickL (f : LamP → Res Vl) : Res Vl := if h : ∃ r, ∀ p, f p = r then Classical.choose h else .bad
theorem pickL_of {f : LamP → Res Vl} {r : Res Vl} (h : ∀ p, f p = r) : pickL f = r := by
  have ex : ∃ r, ∀ p, f p = r := ⟨r, h⟩
  unfold pickL
  rw [dif_pos ex]
  exact (Classical.choose_spec ex ⟨fun _ _ _ _ _ => True, fun _ _ _ h => h⟩).symm.trans (h _)
theorem pickL_at {f : LamP → Res Vl} (h : pickL f ≠ .bad) (p : LamP) : f p = pickL f := by
  by_cases ex : ∃ r, ∀ p, f p = r
  · unfold pickL
    rw [dif_pos ex]
    exact Classical.choose_spec ex p
  · exact absurd (by unfold pickL; rw [dif_neg ex]) h
noncomputable def eLam (g : Ev → Fn) (fb : Ev) : Ev := fun ρ S => pickL fun p => g (eAct p (fb ρ)) [.lam p] S
theorem eLam_of {g : Ev → Fn} {fb : Ev} {ρ : Env} {S : Store} {r : Res Vl} (h : ∀ p, g (eAct p (fb ρ)) [.lam p] S = r) : eLam g fb ρ S = r := pickL_of h
structure Lh (τ : Tb) (X : Cx) : Prop where
  ex : ∃ c P : Addr, X.env.code = .ref c ∧ LamX.TabB X.base X.mg c P ∧ (P, X.env.qual ++ "<lambda>") ∈ τ ∧ ∀ q ∈ τ, q.1 = P → q.2 = X.env.qual ++ "<lambda>"
theorem lam_run {P : Program} {w : World} {K : PySem.W.Frag} {mg : Str → Option Value} {base : Heap} {x q : Str} {st : Stmt} {f : Addr} {fd : FuncData} {N ps : List Str} {k : Nat} (F : Fun K x q st f fd) (S : FnScope N ps (defScope st))
    {B : Around} {fs : List PySem.Env} {s : Shared} {H : Hp} {as : Args} {us : List Value} {vs : List V} {Q : VK} {E : XK} (room : Room (k + 1) B) (env : Env0 P w K mg base B fs s H) (bind : BindsTo s fd as (ps.zip us)) (vals : Vals vs us) (ln : vs.length = ps.length)
    (body : ∀ (cdv : Value), Room k (B.deeper (envOfC q (defScope st) s.heap.objs.size f cdv)) → ∃ t, PSs (cxOf (L2.CX P w) P w K mg base N q (defScope st) f cdv B fs s H E) (defBody st) t ∧ t { nx := fun _ H2 => Q .non H2, rt := Q } (start N vs) H) :
    codeAny (model P w) B (.call (.ref f) as) (CR (L2.CX P w) fs P w H s Q E) s := by
  obtain ⟨oc, od, kV, doc, pm, an, cdv, ct, osl, rfl, look, code⟩ := F.ex
  have inK : K.In s.heap := env.mod.kin.keeps fun b o e => (env.bs b o e).1
  have noLim : s.heap.NoLimit := env.mod.nolimit.keeps fun b o e => (env.bs b o e).1
  refine codeAny_call_function room.depth (inK _ _ look) rfl S.co S.gen rfl (PySem.W.codeRec_of inK code) (bind _ _ _ _ ?_)
  refine wpAny_newFunctionEnv_cells S.kind (fun y hy => ?_) fun ev hev s1 ic => ?_
  · have par := S.par y.1 (List.of_mem_zip (show (y.1, y.2) ∈ ps.zip us from hy)).1
    exact par.imp (fun l => l) fun c => ⟨c, PySem.W.cellsFrom_some _ _ _ (.inl c)⟩
  · subst hev
    refine ⟨noLim.keeps ic.toInCall.keep, codeAny_func ?_⟩
    obtain ⟨t, pss, tq⟩ := body cdv (room.deeper _)
    have J := inv_start (CX := L2.CX P w) (E := E) S room.hd env ln vals ic
    refine wpAny_mono (pss.run [] s1 (start N vs) H _ J tq) (fun fl s2 done => ?_) fun _ _ out => out
    cases fl with
    | ret u =>
      obtain ⟨v, σ2, H2, J2, rv, q2⟩ := done
      exact ⟨v, H2, J2.os, J2.bare, J2.base, J2.hok, rv, q2⟩
    | next =>
      obtain ⟨σ2, H2, J2, q2⟩ := done
      exact ⟨.non, H2, J2.os, J2.bare, J2.base, J2.hok, rfl, q2⟩
    | brk =>
      obtain ⟨_, _, _, z⟩ := done
      exact (show False from z).elim
    | cont =>
      obtain ⟨_, _, _, z⟩ := done
      exact (show False from z).elim
structure LamN (N : List Str) (sc scope : Scope) (ns : List Str) : Prop where
  kind : scope.kind = .function
  co : scope.isCoroutine = false
  gen : scope.isGenerator = false
  own : ∀ y ∈ scope.names, y.2 ≠ .cell ∧ (y.2 = .local → y.1 ∉ N)
  par : ∀ x ∈ ns, scope.names.lookup x = some .local
  free : ∀ y ∈ scope.names, y.2 = .free → sc.names.lookup y.1 = some .cell ∨ sc.names.lookup y.1 = some .free
def lamNB (N : List Str) (sc scope : Scope) (ns : List Str) : Bool :=
  decide (scope.kind = .function) && (!scope.isCoroutine && (!scope.isGenerator && (ns.all (fun x => decide (scope.names.lookup x = some .local)) && scope.names.all fun y => !decide (y.2 = .cell) && ((!decide (y.2 = .local) || !N.contains y.1) && (!decide (y.2 = .free) || (decide (sc.names.lookup y.1 = some .cell) || decide (sc.names.lookup y.1 = some .free)))))))
theorem lamN_by {N : List Str} {sc scope : Scope} {ns : List Str} (h : lamNB N sc scope ns = true) : LamN N sc scope ns := by
  simp only [lamNB, Bool.and_eq_true, Bool.or_eq_true, Bool.not_eq_true', decide_eq_true_eq, decide_eq_false_iff_not, List.all_eq_true] at h
  obtain ⟨a, b, c, d, e⟩ := h
  refine ⟨a, b, c, fun y hy => ⟨(e y hy).1, fun z => ?_⟩, d, fun y hy z => ?_⟩
  · rcases (e y hy).2.1 with w | w
    · exact absurd z w
    · intro m
      have : N.contains y.1 = true := by simpa using m
      rw [this] at w; cases w
  · exact (e y hy).2.2.elim (fun w => absurd z w) id
theorem LamN.has {X : Cx} {scope : Scope} {ns : List Str} (L : LamN X.N X.env.scope scope ns) (ok : X.Ok) : ∀ y ∈ scope.names, y.2 = .free → ∃ c, X.env.cells.lookup y.1 = some c := fun y hy e => ok.has _ (L.free y hy e)
theorem cc_lam {X : Cx} {A : Around} {outer : List PySem.Env} {s : Shared} {H : Hp} {E : XK} {scope : Scope} {f c' : Addr} {k : Nat} (nd : X.N.Nodup) (rm : Room k (A.deeper (LamX.lamEnv X scope s.heap.objs.size f c'))) (gd : A.guards = some []) :
    Cc (LamX.lamCx X A outer s H E scope f c') (wD E) k := ⟨rfl, nd, takes_of rfl rfl rfl rfl, rm, passes_of rfl, gd⟩
theorem lam_begin {X : Cx} {pins : List (Addr × Obj)} {σ : L2.St} {H H1 : Hp} {s s1 : Shared} {A : Around} {outer : List PySem.Env} {E : XK} {scope : Scope} {f c' : Addr} {h1 : Heap} {tk : Nat} {ns : List Str} {m : Str → Option Value} (I : Inv X pins σ H s) (L : LamN X.N X.env.scope scope ns) (env : Env0 X.prog X.w X.K X.mg X.base A outer s1 H1) (hd : A.handled = none)
    (un : Un (L2.frs X.stack) [] H H1 s.heap s1.heap) (own : h1.Ns s1.heap.objs.size m) (up : ∀ b o, s1.heap.get? b = some o → h1.get? b = some o) : Inv (LamX.lamCx X A outer s1 H1 E scope f c') [] σ H1 { s1 with heap := h1, toks := tk } := by
  have has := L.has I.ok
  -- a cell of the lambda is a cell of its maker
  have mine : ∀ {y c}, (cloFrom X.env.cells scope.names []).lookup y = some c → X.env.cells.lookup y = some c := fun {y c} e => by
    rcases cloFrom_mem (PySem.mem_of_lookup e) with z | ⟨z1, z2⟩
    · cases z
    · obtain ⟨d, hd⟩ := has _ z1 rfl
      have hd : X.env.cells.lookup y = some d := hd
      rw [show c = d by rw [z2, hd]; rfl, hd]
  have there : ∀ {y}, scope.names.lookup y = some .free → ∃ c, (cloFrom X.env.cells scope.names []).lookup y = some c := fun {y} e => mem_lookup (cloFrom_has (cells := X.env.cells) (acc := []) (PySem.mem_of_lookup e))
  have cells : ∀ {c : Addr} {v : Option Value}, H c = none → s.heap.IsCell c v → h1.IsCell c v := fun {c v} n ⟨o, e, d⟩ => (un.any e n (by simp)).elim fun sl q => ⟨_, up _ _ q, d⟩
  have noEx : ∀ b : Addr, b ∉ (LamX.lamCx X A outer s1 H1 E scope f c').ex := fun b z => nomatch (show b ∈ ([] : List Addr) from z)
  have okL : Cx.Ok (LamX.lamCx X A outer s1 H1 E scope f c') :=
    { mod := env.mod, kind := L.kind, glob := rfl, blt := rfl, above := Nat.le_refl _, inj := fun x y c e1 e2 => I.ok.inj x y c (mine e1) (mine e2),
      has := fun y hy => by
        have hy : scope.names.lookup y = some .cell ∨ scope.names.lookup y = some .free := hy
        exact hy.elim (fun z => absurd rfl (L.own _ (PySem.mem_of_lookup z)).1) there
      cab := fun y c z _ => (nomatch (show false = true from z)), hd := fun _ => hd, frames := Around.frames_deeper env.frames, stk := .inr ⟨rfl, rfl⟩, exf := fun b z => absurd z (noEx b), bs := env.bs, bsz := env.bsz, noex := fun b _ _ => noEx b,
      exfs := fun b z => absurd z (noEx b), funs := env.funs, frf := env.frf }
  refine ⟨okL, rfl, env.bare, Un.kept up, ⟨m, own, fun i y v e1 e2 vis => ?_⟩, fun y c e => ?_, env.hok.fresh (Nat.le_refl _), fun y c e => ?_, fun q hq => (nomatch (show q ∈ ([] : List (Addr × Obj)) ++ [] from hq)), env.hok.kept up, I.len⟩
  · have vis : Vis scope y := vis
    have e1 : X.N[i]? = some y := e1
    rcases vis with z | z | z
    · exact absurd (List.mem_of_getElem? e1) ((L.own _ (PySem.mem_of_lookup z)).2 rfl)
    · exact absurd rfl (L.own _ (PySem.mem_of_lookup z)).1
    · obtain ⟨m0, _, look⟩ := I.loc
      have outside := L.free _ (PySem.mem_of_lookup z) rfl
      obtain ⟨u, ru, q⟩ := look i y v e1 e2 (outside.elim (fun w => .inr (.inl w)) fun w => .inr (.inr w))
      obtain ⟨c, hc⟩ := there z
      refine ⟨u, ru, .inr ⟨.inr z, c, hc, ?_⟩⟩
      rcases q with ⟨q, _⟩ | ⟨_, d, hd, q⟩
      · have q : X.env.scope.names.lookup y = some .local := q
        rcases outside with w | w <;> · rw [show X.env.scope.names.lookup y = _ from w] at q; cases q
      · have hc2 := mine hc
        rw [hd] at hc2
        cases hc2
        exact cells (I.freeC y _ hd) q
  · obtain ⟨v, q⟩ := I.cell y c (mine e)
    exact ⟨v, cells (I.freeC y c (mine e)) q⟩
  · obtain ⟨v, o, q, _⟩ := I.cell y c (mine e)
    exact un.free c o q (I.freeC y c (mine e)) (by simp)
theorem de_act {X : Cx} {pins : List (Addr × Obj)} {σ : L2.St} {H : Hp} {s : Shared} {N : List Str} {q : Str} {st : Stmt} {g f c' : Addr} {cdv pm ctv dV doc : Value} {params : Arguments} {body : Expr} {scope : Scope} {k : Nat} {a : Str} {W : WX} {E : XK} {fb : Ev} {ρ : Env} {p1 p2 : Pos} {p0 : LamP} {pn : List (Addr × Obj)} {xe : Value → Shared → Prop} {ns : List Str}
    (I : Inv X pins σ H s) (L : LamN X.N X.env.scope scope ns) (ob : s.heap.get? f = some (PySem.W.kdv_obj "<lambda>" (X.env.qual ++ "<lambda>") params (.expr body) scope (cloFrom X.env.cells scope.names []) dV doc pm c' ctv)) (hn : H f = none) (hfr : f ∉ L2.frs X.stack)
    (bnd : ∀ (s2 : Shared), (∀ b o, s.heap.get? b = some o → H b = none → b ∉ L2.frs X.stack → s2.heap.get? b = some o) → ∃ binds : List (Str × Value), (∀ y ∈ binds, y.1 ∈ ns) ∧ BindsTo s2 (PySem.W.kdv_fn "<lambda>" (X.env.qual ++ "<lambda>") params (.expr body) scope (cloFrom X.env.cells scope.names []) dV doc pm (.ref c') ctv) ⟨[], []⟩ binds)
    (tk : Takes ((cxD X.prog X.w X.K X.mg X.base N q st g cdv X.A X.stack s H E).tr pn xe) W) (room : Room (k + 1) (X.A.deeper (envOfC q (defScope st) s.heap.objs.size g cdv)))
    (rd : ∀ (A : Around) (outer : List PySem.Env) (s : Shared) (H : Hp) (E : XK), A.guards = X.A.guards → Room k (A.deeper (LamX.lamEnv X scope s.heap.objs.size f c')) → DE τ (LamX.lamCx X A outer s H E scope f c') (wD E) body fb)
    (tells : ∀ φ F H n v, p0.P φ F H n v → v = .ref f ∧ H c' = some (LamX.CodeO c' (X.env.qual ++ "<lambda>")) ∧ Slots X.K X.mg φ F H n σ ρ)
    (h0 : N[0]? = some a) (vis : Vis (defScope st) a) (d1 : (a == ("__debug__" : Str)) = false) (d2 : (a == ("__classdict__" : Str)) = false) :
    DE τ ((cxD X.prog X.w X.K X.mg X.base N q st g cdv X.A X.stack s H E).tr pn xe) W (.Call (.Name a p1) [] [] p2) (eAct p0 (fb ρ)) := by
  refine ⟨⟨fun pinsZ sZ σZ HZ QZ IZ ⟨φ, F, ρZ, SZ, sg, slZ, post⟩ => ?_⟩⟩
  have nb : eAct p0 (fb ρ) ρZ SZ ≠ .bad := fun e => by rw [e] at post; exact post
  have at0 := act_ne nb
  rw [ap_eAct at0] at post
  obtain ⟨v, hv, rv⟩ := slZ.2 0 _ at0
  obtain ⟨rfl, hc, sl⟩ := tells _ _ _ _ _ rv
  refine wpAny_Call_Name_kw (thn ((pe_var (pos := p1) (i := 0) h0 vis d1 d2).run pinsZ sZ σZ HZ (fun v H1 => v = .ref f ∧ H1 = HZ) IZ ⟨_, hv, rfl, rfl⟩) fun u s1 ⟨v, H1, I1, r1, ev, eH⟩ => ?_)
  subst ev eH
  obtain rfl : u = Value.ref f := r1
  have kept : ∀ b o, s.heap.get? b = some o → H b = none → b ∉ L2.frs X.stack → s1.heap.get? b = some o := fun b o e1 e2 e3 => I1.base.keep b o e1 e2 e3 (fun z => nomatch (show b ∈ ([] : List Addr) from z))
  have keepF := kept f _ ob hn hfr
  refine PySem.W.callWith_F0 ⟨_, _, _, _, keepF⟩ ?_
  obtain ⟨⟨oc, vs, t, o1, o2, o3⟩, _, _⟩ := I1.hok c' _ hc
  have run : codeAny (model X.prog X.w) (X.A.deeper (envOfC q (defScope st) s.heap.objs.size g cdv)) (.call (.ref f) ⟨[], []⟩) (CR (L2.CX X.prog X.w) (envOfC q (defScope st) s.heap.objs.size g cdv :: X.stack) X.prog X.w H1 s1 QZ fun cls d H2 => W cls d σZ H2) s1 := by
    refine PySem.W.kla_callFunE room.depth keepF rfl L.co L.gen rfl ⟨c', oc, vs, t, rfl, o1, o2, o3⟩ ?_
    obtain ⟨binds, hb, bd⟩ := bnd s1 kept
    refine bd _ _ _ _ (wpAny_newFunctionEnv (fun y hy => (L.own y hy).1) (fun y hy => L.par _ (hb y hy)) (fun h1 ns new => ⟨I1.nolimit.fresh _ new, ?_⟩) L.kind)
    show codeAny _ _ (.expr body (LamX.lamEnv X scope s1.heap.objs.size f c')) _ _
    have stays : ∀ b o, s1.heap.get? b = some o → h1.get? b = some o := fun b o e => new.extBut b o (Nat.ne_of_lt (Heap.lt_size e)) (Heap.get?_push_of_some _ e)
    have J := lam_begin (E := fun cls d H2 => W cls d σZ H2) (f := f) (c' := c') (tk := s1.toks + binds.length) I L I1.env0 room.hd I1.base ns stays
    refine PySem.W.kla_codeExpr (wpAny_mono ((rd (X.A.deeper (envOfC q (defScope st) s.heap.objs.size g cdv)) _ s1 H1 _ rfl (room.deeper _)).r.run [] _ _ H1 QZ J ⟨φ, F, ρ, SZ, sg, sl, post⟩) (fun v s2 done => ?_) fun _ _ z => z)
    obtain ⟨w2, H2, J2, rv2, q2⟩ := done
    exact ⟨w2, H2, J2.os, J2.bare, J2.base, J2.hok, rv2, q2⟩
  refine wpAny_call (codeAny_mono run fun r s2 done => ?_)
  cases r with
  | error e => exact tk e s2 (XE.of_call I1 (fun _ _ _ z => z) done)
  | ok fl =>
    cases fl with
    | ret u => exact I1.after done
    | next => exact done.elim
    | brk => exact done.elim
    | cont => exact done.elim
def Made (H H1 : Hp) (P c : Addr) (q : Str) : Prop := (H1 = H ∧ H c = some (LamX.CodeO c q)) ∨ ∃ ps more : Array Value, H P = some (.tbl ps) ∧ H c = none ∧ H1 = upd (upd H P (.tbl (ps ++ more))) c (LamX.CodeO c q)
theorem Made.at {H H1 : Hp} {P c : Addr} {q : Str} (m : Made H H1 P c q) : H1 c = some (LamX.CodeO c q) := by
  rcases m with ⟨rfl, e⟩ | ⟨ps, more, _, _, rfl⟩
  · exact e
  · exact upd_same
theorem Made.else {H H1 : Hp} {P c a : Addr} {q : Str} (m : Made H H1 P c q) (h1 : a ≠ P) (h2 : a ≠ c) : H1 a = H a := by
  rcases m with ⟨rfl, e⟩ | ⟨ps, more, _, _, rfl⟩
  · rfl
  · rw [upd_ne h2, upd_ne h1]
theorem Made.tbl {H H1 : Hp} {P c : Addr} {q : Str} {ps : Array Value} (m : Made H H1 P c q) (h : H P = some (.tbl ps)) : ∃ ps', H1 P = some (.tbl ps') := by
  rcases m with ⟨rfl, e⟩ | ⟨ps', more, e1, e2, rfl⟩
  · exact ⟨_, h⟩
  · refine ⟨_, (upd_ne fun z => ?_).trans upd_same⟩
    rw [z, e2] at e1; cases e1
section
variable {τ : Tb} {K : PySem.W.Frag} {mg : Str → Option Value} {φ : Nat → Addr} {F : Addr → Prop} {H H1 : Hp} {S : Store} {P c : Addr} {q : Str}
theorem SG.made (g : SG τ K φ F H S) (m : Made H H1 P c q) (hP : ∃ q', (P, q') ∈ τ) (t : LamX.Tabs τ H1) : Now τ K S.length φ F H φ (fun a => F a ∨ a = c) H1 S := by
  obtain ⟨q', hq'⟩ := hP
  obtain ⟨psP, atP, _⟩ := g.tab _ hq'
  have notP : ∀ a, F a → a ≠ P := fun a ha z => g.ntab _ hq' (z ▸ ha)
  have ofC : H c = none ∨ F c := by
    rcases m with ⟨_, e⟩ | ⟨_, _, _, e, _⟩
    · exact .inr (g.codes _ _ _ e)
    · exact .inl e
  have codeEq : H c ≠ none → H1 = H := fun h => by
    rcases m with ⟨e, _⟩ | ⟨_, _, _, e, _⟩
    · exact e
    · exact absurd e h
  have same : ∀ a, F a → H1 a = H a := fun a ha => by
    by_cases z : a = c
    · subst z; rw [codeEq (g.dom a ha)]
    · exact m.else (notP a ha) z
  have stay : ∀ a, H a ≠ none → a ≠ P → H1 a = H a := fun a ha hP => by
    by_cases z : a = c
    · subst z; rw [codeEq ha]
    · exact m.else hP z
  have alive : ∀ a, H a ≠ none → H1 a ≠ none := fun a ha => by
    by_cases z : a = P
    · obtain ⟨ps, e⟩ := m.tbl atP
      rw [z, e]; simp
    · rw [stay a ha z]; exact ha
  have notTbl : ∀ i o, S[i]? = some o → o.live = true → φ i ≠ P ∧ φ i ≠ c := fun i o ho hv => by
    obtain ⟨u, hu, pu⟩ := (g.obj i o ho).plain hv
    refine ⟨fun z => ?_, fun z => ?_⟩
    · rw [z, atP] at hu
      exact pu.1 _ (Option.some.inj hu).symm
    · rcases ofC with e | e
      · rw [z, e] at hu; cases hu
      · exact (g.obj i o ho).there.2 hv (z ▸ e)
  refine ⟨⟨fun _ h => .inl h, same, fun _ _ => rfl⟩, ⟨fun a h => ?_, fun i o h => ?_, g.inj, t, fun p hp z => z.elim (g.ntab p hp) fun z => ?_, fun a ps h => ?_, fun a c2 q2 h => ?_⟩, Nat.le_refl _, fun a ha ht _ => stay a ha fun z => ht psP (z ▸ atP), alive, fun i h1 h2 => absurd h2 (Nat.not_lt.mpr h1), fun a (h : F a ∨ a = c) => ?_⟩
  · rcases h with h | h
    · rw [same a h]; exact g.dom a h
    · rw [h, m.at]; simp
  · have mo := g.obj i o h
    cases o with
    | lst ds => exact mo.ext (fun _ h => .inl h) same (fun hv h1 h2 => h2.elim h1 (notTbl i _ h hv).2) (m.else (notTbl i _ h rfl).1 (notTbl i _ h rfl).2)
    | dct es => exact mo.ext (fun _ h => .inl h) same (fun hv h1 h2 => h2.elim h1 (notTbl i _ h hv).2) (m.else (notTbl i _ h rfl).1 (notTbl i _ h rfl).2)
    | fz x => exact ⟨mo.1.ext (fun _ h => .inl h) same, alive _ mo.2⟩
  · obtain ⟨ps, h1, _⟩ := t p hp
    rw [z, m.at] at h1
    exact LamX.codeO_ne ps (Option.some.inj h1)
  · by_cases z : a = P
    · exact ⟨_, hq', z.symm⟩
    · by_cases z2 : a = c
      · rw [z2, m.at] at h
        exact absurd (Option.some.inj h) (LamX.codeO_ne ps)
      · rw [m.else z z2] at h
        exact g.only a ps h
  · by_cases z2 : a = c
    · exact .inr z2
    · by_cases z : a = P
      · obtain ⟨ps, e⟩ := m.tbl atP
        rw [z, e] at h
        exact absurd (Option.some.inj h).symm (by unfold LamX.CodeO; intro y; cases y)
      · rw [m.else z z2] at h
        exact .inl (g.codes a c2 q2 h)
  · rcases h with h | h
    · exact .inl h
    · subst h
      exact ofC.elim (fun e => .inr (.inl e)) .inl
end
theorem lam_tail {X : Cx} {pins : List (Addr × Obj)} {σ : L2.St} {H : Hp} {s : Shared} {τ : Tb} {c P : Addr} {params : Arguments} {body : Expr} {scope : Scope} {pos : Pos} {E Q : Value → Shared → Prop} {dV : Value} {line : Nat} (I : Inv X pins σ H s)
    (tb : LamX.TabB X.base X.mg c P) (code : X.env.code = .ref c) (inT : (P, X.env.qual ++ "<lambda>") ∈ τ) (one : ∀ p ∈ τ, p.1 = P → p.2 = X.env.qual ++ "<lambda>") (ts : LamX.Tabs τ H) (fr : ∀ y ∈ scope.names, y.2 = .free → ∃ c, X.env.cells.lookup y.1 = some c)
    (go : ∀ (f c' : Addr) (pm ctv doc : Value) (H1 : Hp) (s' : Shared), Inv X pins σ H1 s' → Made H H1 P c' (X.env.qual ++ "<lambda>") → LamX.Tabs τ H1 →
      s'.heap.get? f = some (PySem.W.kdv_obj "<lambda>" (X.env.qual ++ "<lambda>") params (.expr body) scope (cloFrom X.env.cells scope.names []) dV doc pm c' ctv) → H1 f = none → f ∉ L2.frs X.stack → s.heap.objs.size ≤ f → (∀ b o, s.heap.get? b = some o → H b = none → s'.heap.get? b = some o ∧ H1 b = none) → Q (.ref f) s') :
    wpAny (model X.prog X.w) X.A (makeTail "<lambda>" (X.env.qual ++ "<lambda>") params (.expr body) scope X.env dV .none none pos line) Q E s := by
  obtain ⟨ps, atP, tri, tells⟩ := ts _ inT
  have bm := tb.bm.keeps I.bk
  have obP : s.heap.get? P = some { cls := .none, data := .fields ps } := I.hok P _ atP
  have far : ∀ f, s.heap.objs.size ≤ f → f ∉ L2.frs X.stack := fun f hf z => (List.mem_cons.mp (I.stkSub _ z)).elim (fun e => absurd (e ▸ I.lt) (Nat.not_lt.mpr hf)) fun e => I.nofs hf e
  cases found : codeAmong pos ps.toList with
  | some cv =>
    obtain ⟨c', rfl, known⟩ := tells pos cv found
    refine PySem.W.kdv_makeTailHit (closure_ok fr) I.ok.glob (I.mod.glob.keeps I.bk) code (tb.code.keeps I.bk) obP tri found bm fun ctv doc h2 tk up sz => ?_
    exact go _ c' _ ctv doc H _ (I.kept fun b o e => Heap.get?_push_of_some _ (up b o e)) (.inl ⟨rfl, known⟩) ts (Heap.get?_push_size _ rfl) (I.hok.fresh sz) (far _ sz) sz fun b o e n => ⟨Heap.get?_push_of_some _ (up b o e), n⟩
  | none =>
    refine PySem.W.kdv_makeTail (closure_ok fr) I.ok.glob (I.mod.glob.keeps I.bk) code (tb.code.keeps I.bk) obP tri found tb.gP bm fun c' ctv doc h2 tk up ge lt rec there => ?_
    obtain ⟨_, oc, vs, t, ec, o1, o2, o3⟩ := rec
    cases ec
    have le2 : s.heap.objs.size ≤ h2.objs.size := Nat.le_trans ge (Nat.le_of_lt lt)
    have new : H c' = none := I.hok.fresh ge
    have m : Made H (upd (upd H P (.tbl (ps ++ #[rawInt pos.line, rawInt pos.col, .ref c']))) c' (LamX.CodeO c' (X.env.qual ++ "<lambda>"))) P c' (X.env.qual ++ "<lambda>") := .inr ⟨ps, _, atP, new, rfl⟩
    have J := LamX.inv_table (t' := tk) (q := X.env.qual ++ "<lambda>") (more := #[rawInt pos.line, rawInt pos.col, .ref c']) (h' := h2.push (PySem.W.kdv_obj "<lambda>" (X.env.qual ++ "<lambda>") params (.expr body) scope (cloFrom X.env.cells scope.names []) dV doc ((X.mg "__name__").getD .none) c' ctv)) I atP
      (fun b o nb e => Heap.get?_push_of_some _ (up b o nb e)) (Heap.get?_push_of_some _ there) ge ⟨oc, vs, t, Heap.get?_push_of_some _ o1, o2, o3⟩
    have list : (ps ++ #[rawInt pos.line, rawInt pos.col, .ref c']).toList = ps.toList ++ [rawInt pos.line, rawInt pos.col, .ref c'] := by simp
    have nPc : P ≠ c' := fun z => by rw [z, new] at atP; cases atP
    have keepC : ∀ c0 q, H c0 = some (LamX.CodeO c0 q) → upd (upd H P (.tbl (ps ++ #[rawInt pos.line, rawInt pos.col, .ref c']))) c' (LamX.CodeO c' (X.env.qual ++ "<lambda>")) c0 = some (LamX.CodeO c0 q) := fun c0 q e => by
      rw [m.else (fun z => by rw [z, atP] at e; exact LamX.codeO_ne ps (Option.some.inj e).symm) (fun z => by rw [z, new] at e; cases e)]
      exact e
    have ltP : ∀ b, s.heap.objs.size ≤ b → b ≠ P := fun b hb z => Nat.lt_irrefl _ (Nat.lt_of_lt_of_le (Heap.lt_size obP) (z ▸ hb))
    refine go h2.objs.size c' ((X.mg "__name__").getD .none) ctv doc _ _ J m (fun p hp => ?_) (Heap.get?_push_size _ rfl) ((m.else (ltP _ le2) (Nat.ne_of_gt lt)).trans (I.hok.fresh le2)) (far _ le2) le2 fun b o e n => ?_
    · by_cases z : p.1 = P
      · rw [one p hp z, z]
        refine ⟨_, (upd_ne nPc).trans upd_same, by rw [list]; exact PySem.TriplesOk_snoc _ _ _ _ tri, fun p2 cv h => ?_⟩
        rw [list] at h
        rcases LamX.among_app _ tri h with h | h
        · obtain ⟨c0, e1, e2⟩ := tells p2 cv h
          exact ⟨c0, e1, keepC _ _ e2⟩
        · exact ⟨c', h, upd_same⟩
      · obtain ⟨ps2, e1, e2, e3⟩ := ts p hp
        refine ⟨ps2, (m.else z fun y => ?_).trans e1, e2, fun p2 cv h => ?_⟩
        · rw [y, new] at e1; cases e1
        · obtain ⟨c0, a1, a2⟩ := e3 p2 cv h
          exact ⟨c0, a1, keepC _ _ a2⟩
    · have bP : b ≠ P := fun z => by rw [z, atP] at n; cases n
      have bc : b ≠ c' := fun z => Nat.lt_irrefl _ (Nat.lt_of_lt_of_le (Heap.lt_size e) (z ▸ ge))
      exact ⟨Heap.get?_push_of_some _ (up b o bP e), (m.else bP bc).trans n⟩
inductive LamParams (X : Cx) (params : Arguments) (body : Expr) (scope : Scope) : List Str → Prop where
  | none : defaultsOf params X.env = ([], []) → (∀ (s : Shared) (q : Str) (cl : List (Str × Addr)) (doc pm cv ctv : Value), BindsTo s (PySem.W.kdv_fn "<lambda>" q params (.expr body) scope cl .none doc pm cv ctv) ⟨[], []⟩ []) → LamParams X params body scope []
  | int {x : Str} {i : Int} {j : Nat} {p0 : Pos} : params.defaults = [.Constant (.int i) j p0] → params.kw_defaults = [] →
      (∀ (s : Shared) (q : Str) (cl : List (Str × Addr)) (T : Addr) (doc pm cv ctv v : Value), s.heap.get? T = some (PySem.W.kdv_tup [v]) → BindsTo s (PySem.W.kdv_fn "<lambda>" q params (.expr body) scope cl (.ref T) doc pm cv ctv) ⟨[], []⟩ [(x, v)]) → LamParams X params body scope [x]
theorem lam_new {X : Cx} {pins : List (Addr × Obj)} {σ : L2.St} {H : Hp} {s : Shared} {τ : Tb} {c P : Addr} {params : Arguments} {body : Expr} {scope : Scope} {pos : Pos} {E Q : Value → Shared → Prop} {ns : List Str} (I : Inv X pins σ H s)
    (tb : LamX.TabB X.base X.mg c P) (code : X.env.code = .ref c) (inT : (P, X.env.qual ++ "<lambda>") ∈ τ) (one : ∀ p ∈ τ, p.1 = P → p.2 = X.env.qual ++ "<lambda>") (ts : LamX.Tabs τ H) (pa : LamParams X params body scope ns) (fr : ∀ y ∈ scope.names, y.2 = .free → ∃ c, X.env.cells.lookup y.1 = some c)
    (go : ∀ (f c' : Addr) (pm ctv doc dV : Value) (H1 : Hp) (s' : Shared), Inv X pins σ H1 s' → Made H H1 P c' (X.env.qual ++ "<lambda>") → LamX.Tabs τ H1 →
      s'.heap.get? f = some (PySem.W.kdv_obj "<lambda>" (X.env.qual ++ "<lambda>") params (.expr body) scope (cloFrom X.env.cells scope.names []) dV doc pm c' ctv) → H1 f = none → f ∉ L2.frs X.stack →
      (∀ (s2 : Shared), (∀ b o, s'.heap.get? b = some o → H1 b = none → b ∉ L2.frs X.stack → s2.heap.get? b = some o) → ∃ binds : List (Str × Value), (∀ y ∈ binds, y.1 ∈ ns) ∧ BindsTo s2 (PySem.W.kdv_fn "<lambda>" (X.env.qual ++ "<lambda>") params (.expr body) scope (cloFrom X.env.cells scope.names []) dV doc pm (.ref c') ctv) ⟨[], []⟩ binds) → Q (.ref f) s') :
    wpAny (model X.prog X.w) X.A (eval (.Lambda params body scope pos) X.env) Q E s := by
  have far : ∀ f, s.heap.objs.size ≤ f → f ∉ L2.frs X.stack := fun f hf z => (List.mem_cons.mp (I.stkSub _ z)).elim (fun e => absurd (e ▸ I.lt) (Nat.not_lt.mpr hf)) fun e => I.nofs hf e
  cases pa with
  | none d b =>
    refine PySem.W.kla_eval d ?_
    rw [makeFunction_eq]
    simp only [List.zip_nil_right, List.filterMap_nil, List.isEmpty_nil, if_true, pure_bind]
    exact lam_tail I tb code inT one ts fr fun f c' pm ctv doc H1 s' J m t ob hn hf _ _ => go f c' pm ctv doc .none H1 s' J m t ob hn hf fun s2 _ => ⟨[], fun _ z => (nomatch z), b _ _ _ _ _ _ _⟩
  | @int x i j p0 d d2 b =>
    refine PySem.W.kdv_lam (by rw [d]; rfl) d2 ?_
    rw [d]
    refine PySem.W.kdv_all1 (thn ((pe_int (i := i) (j := j) (pos := p0)).run pins s σ H (fun v H1 => v = .int i ∧ H1 = H) I ⟨rfl, rfl⟩) fun u s1 ⟨v, H1, I1, r1, ev, eH⟩ => ?_)
    subst ev eH
    refine PySem.W.kdv_all0 ?_
    rw [makeFunction_eq]
    simp only [List.zip_nil_right, List.filterMap_nil, List.isEmpty_nil, List.isEmpty_cons, Bool.false_eq_true, if_false, if_true, pure_bind]
    refine wpAny_bind (wpAny_newTextTuple ?_)
    have J1 := I1.kept (t' := s1.toks) (h' := s1.heap.push { cls := .type "tuple", data := .seq [u].toArray }) fun b o e => Heap.get?_push_of_some _ e
    have farT : s1.heap.objs.size ∉ L2.frs X.stack := fun z => (List.mem_cons.mp (I1.stkSub _ z)).elim (fun e => absurd (e ▸ I1.lt) (Nat.lt_irrefl _)) fun e => I1.nofs (Nat.le_refl _) e
    refine lam_tail J1 tb code inT one ts fr fun f c' pm ctv doc H2 s' J m t ob hn hf _ keep => go f c' pm ctv doc _ H2 s' J m t ob hn hf fun s2 up => ⟨[(x, u)], fun y hy => by rw [List.mem_singleton.mp hy]; simp, ?_⟩
    obtain ⟨k1, k2⟩ := keep s1.heap.objs.size _ (Heap.get?_push_size _ rfl) (I1.hok.fresh (Nat.le_refl _))
    exact b s2 _ _ _ _ _ _ _ u (up _ _ k1 k2 farT)
structure LamOk (τ : Tb) (P : Program) (w : World) (K : PySem.W.Frag) (mg : Str → Option Value) (base : Heap) (k : Nat) (x : Str) (gw : Ev → Fn) : Prop where
  ex : ∃ (f : Addr) (y a : Str) (st : Stmt) (fd : FuncData) (N : List Str) (b : Ev → Sv), Fun K y y st f fd ∧ mg x = some (.ref f) ∧ PySem.W.keepIn K (.ref f) = true ∧ Binds K fd [a] [] ∧ FnScope N [a] (defScope st) ∧ N[0]? = some a ∧ Vis (defScope st) a ∧
    (a == ("__debug__" : Str)) = false ∧ (a == ("__classdict__" : Str)) = false ∧ (∀ act, gw act = fnOf N.length (b act)) ∧
    ∀ (cdv : Value) (B : Around) (fs : List PySem.Env) (s : Shared) (H : Hp) (E : XK) (act : Ev), Cc (cxD P w K mg base N y st f cdv B fs s H E) (wD E) k →
      (∀ (W : WX) (pn : List (Addr × Obj)) (xe : Value → Shared → Prop) (p1 p2 : Pos), Takes ((cxD P w K mg base N y st f cdv B fs s H E).tr pn xe) W → DE τ ((cxD P w K mg base N y st f cdv B fs s H E).tr pn xe) W (.Call (.Name a p1) [] [] p2) act) →
      DB τ (cxD P w K mg base N y st f cdv B fs s H E) (wD E) (defBody st) (b act)
theorem de_lam {X : Cx} {W : WX} {j k k' : Nat} {x : Str} {gw : Ev → Fn} {params : Arguments} {body : Expr} {scope : Scope} {lpos p pos : Pos} {fb : Ev} (G : LamOk τ X.prog X.w X.K X.mg X.base k x gw) (cc : Cc X W (j + 2)) (lh : Lh τ X) (hk : k ≤ j + 1) (hk' : k' ≤ j) (hg : Gl X x) {ns : List Str} (L : LamN X.N X.env.scope scope ns) (pa : LamParams X params body scope ns)
    (rd : ∀ (A : Around) (outer : List PySem.Env) (s : Shared) (H : Hp) (E : XK) (f c' : Addr), Cc (LamX.lamCx X A outer s H E scope f c') (wD E) k' → DE τ (LamX.lamCx X A outer s H E scope f c') (wD E) body fb)
    (hdb : (x == ("__debug__" : Str)) = false := by decide) : DE τ X W (.Call (.Name x p) [.Lambda params body scope lpos] [] pos) (eLam gw fb) := by
  obtain ⟨c, P, code, tb, inT, one⟩ := lh.ex
  obtain ⟨g, y, a, st, fd, N, b, Fu, there, keep, bi, Sc, h0, vis, d1, d2, gwb, read⟩ := G.ex
  refine ⟨⟨fun pins s σ H Q I ⟨φ, F, ρ, S, sg, sl, post⟩ => ?_⟩⟩
  refine wpAny_Call_Name_kw (ld_glob I hg there ?_ hdb)
  refine PySem.W.callWith_K (h₀ := X.base) I.ok.mod.kin keep ?_ (by rfl) (by rfl)
  show wpAny _ _ (spliced ((false, eval (.Lambda params body scope lpos) X.env) :: backTo pos (starEach [] X.env))) _ _ s
  refine Calls.spliced_cons (lam_new I tb code inT one sg.tab pa (L.has I.ok) fun f c' pm ctv doc dV H1 s1 I1 m t1 ob hn hfr bnd => ?_)
  refine Calls.spliced_nil ⟨I1.kIn, ?_⟩
  have nw := sg.made m ⟨_, inT⟩ t1
  -- what stands for the lambda
  let p0 : LamP := ⟨fun φ F H n v => v = .ref f ∧ F c' ∧ H c' = some (LamX.CodeO c' (X.env.qual ++ "<lambda>")) ∧ Slots X.K X.mg φ F H n σ ρ, fun v e h ⟨h1, h2, h3, h4⟩ => ⟨h1, e.sub _ h2, (e.same _ h2).trans h3, h4.ext e h⟩⟩
  have nb : pickL (fun p => gw (eAct p (fb ρ)) [.lam p] S) ≠ .bad := fun z => by
    have post : PostG τ X.K X.mg (RepV X.K X.mg) (fun c od H' => W c od σ H') S.length φ F H Q (pickL fun p => gw (eAct p (fb ρ)) [.lam p] S) := post
    rw [z] at post
    exact post
  have post1 : Post τ X.K X.mg (fun c od H' => W c od σ H') S.length φ (fun a => F a ∨ a = c') H1 Q (gw (eAct p0 (fb ρ)) [.lam p0] S) := by
    rw [pickL_at nb p0]
    exact PostG.start sg nw post
  have repV : RepVs X.K X.mg φ (fun a => F a ∨ a = c') H1 S.length [.ref f] [.lam p0] := ⟨⟨rfl, .inr rfl, m.at, sl.now nw⟩, trivial⟩
  have bd := bi s1 [.ref f] I1.kIn rfl
  rw [List.append_nil] at bd
  have run : codeAny (model X.prog X.w) X.A (.call (.ref g) ⟨[.ref f], []⟩) (CR (L2.CX X.prog X.w) X.stack X.prog X.w H1 s1 Q fun c d H2 => W c d σ H2) s1 := by
    refine lam_run (N := N) (ps := [a]) (us := [.ref f]) (vs := [.ref f]) (k := j + 1) Fu Sc cc.rm I1.env0 bd (.cons rfl .nil) rfl fun cdv room => ?_
    refine ⟨_, (read cdv X.A X.stack s1 H1 _ (eAct p0 (fb ρ)) (cc_def Sc.nd (room.mono hk) cc.gd) fun W' pn xe p1 p2 tk => ?_).r, φ, _, _, S, nw.sg, slots_start repV _, ?_⟩
    · exact de_act I1 L ob hn hfr bnd tk room (fun A outer s H E gA rm => rd A outer s H E f c' (cc_lam cc.nd (rm.mono hk') (gA.trans cc.gd))) (fun φ F H n v ⟨h1, _, h3, h4⟩ => ⟨h1, h3, h4⟩) h0 vis d1 d2
    · rw [gwb] at post1
      have p1 : Post τ X.K X.mg (fun c d H2 => W c d σ H2) S.length φ (fun a => F a ∨ a = c') H1 Q (fnOf N.length (b (eAct p0 (fb ρ))) [.lam p0] S) := post1
      unfold fnOf at p1
      cases e : b (eAct p0 (fb ρ)) ([Vl.lam p0].map some ++ List.replicate (N.length - [Vl.lam p0].length) none) S with
      | nx ρ1 S1 => rw [e] at p1; exact fun φ1 F1 H1 nw1 σ1 sl1 => p1 _ _ _ nw1.cut .non .non
      | ret v S1 => rw [e] at p1; exact fun φ1 F1 H1 nw1 x rx => leave_ok nw.sg nw1 rx p1
      | ex x ρ1 S1 => rw [e] at p1; exact fun φ1 F1 H1 nw1 c od rx σ1 sl1 => p1 _ _ _ nw1.cut c od rx
      | bk ρ1 S1 => rw [e] at p1; exact (show False from p1).elim
      | ct ρ1 S1 => rw [e] at p1; exact (show False from p1).elim
      | bad => rw [e] at p1; exact p1
  refine wpAny_call (codeAny_mono run fun r s2 done => ?_)
  cases r with
  | error e => exact cc.tk e s2 (XE.of_call I1 (fun _ _ _ z => z) done)
  | ok fl =>
    cases fl with
    | ret u => exact I1.after done
    | next => exact done.elim
    | brk => exact done.elim
    | cont => exact done.elim
section
variable {P : Program} {w : World} {K : PySem.W.Frag} {mg mb : Str → Option Value} {cs : List (Addr × Addr)}
theorem head_at {h : Heap} {H : Hp} {c Pa : Addr} (C : PySem.W.CodeHd h c Pa) (free : ∀ o, h.get? c = some o → (∃ vs, o.data = .fields vs ∧ vs ≠ #[]) → H c = none) : PySem.W.CodeHd (hidT h H) c Pa := by
  obtain ⟨o, us, z1, z2, z3, z4, z5, z6, z7, e1, e2, e3, e4, e5⟩ := C
  refine ⟨o, us, z1, z2, z3, z4, z5, z6, z7, hidT_get e1 (free o e1 ⟨us, e3, fun z => ?_⟩), e2, e3, e4, e5⟩
  rw [z] at e4
  simp at e4
theorem law_atT {k : Nat} {fa a : Addr} {fd : FuncData} {x : Str} {sp : Sp} {s : Shared} {vs : List Value} {H : Hp} (inK : K.In s.heap) (ns : s.heap.Ns mainGlobals mg) (nb : s.heap.Ns builtinsNs mb) (bb : ∀ x : Str, x ≠ "__name__" → mb x = bootBuiltins x)
    (lim : s.heap.NoLimit) (gn : s.gens = #[]) (at_ : s.heap.get? a = some { cls := .type "list", data := .seq vs.toArray }) (room : Room k callerA)
    (bm : ∃ (bm : Addr) (ob : Obj), mg "__builtins__" = some (.ref bm) ∧ bm ≠ builtinsNs ∧ s.heap.get? bm = some ob ∧ ob.cls = .type "module" ∧ ob.dict = some builtinsNs ∧ ob.data = .plain)
    (tabs : ∀ p ∈ cs, PySem.W.CodeHd s.heap p.1 p.2 ∧ s.heap.get? p.2 = some (PySem.W.tabObj #[])) (noK : ∀ p ∈ cs, K.lookup p.2 = none)
    (F : ∀ base : Heap, K.In base → base.Ns mainGlobals mg → (∀ p ∈ cs, LamX.TabB base mg p.1 p.2) → Fk P w K mg base k fa fd [x] sp) (bind : ∀ (s : Shared) (u : Value), BindsTo s fd ⟨[u], []⟩ [(x, u)])
    (hok : HOk P w H s.heap) (only : ∀ b, H b ≠ none → b = a ∨ ∃ p ∈ cs, p.2 = b) (inH : ∀ p ∈ cs, H p.2 = some (.tbl #[])) (fz : H a ≠ none → K.lookup a = none ∧ ∃ u, H a = some (.frz { cls := .type "list", data := .seq vs.toArray } u)) (prom : sp [.ref a] H (fun v _ => v = .bl true) fun _ _ _ => False) :
    codeAny (model P w) callerA (.call (.ref fa) ⟨[.ref a], []⟩) (fun r s' => r = .ok (.ret (.bool true)) ∧ OldK s.heap s'.heap ∧ s'.os = s.os ∧ AllBare s'.gens) s := by
  have untracked : ∀ {b : Addr} {o : Obj}, s.heap.get? b = some o → (∀ vs n, o.data ≠ .seq vs n) → o.data ≠ .fields #[] → H b = none := fun {b o} e n1 n2 => by
    cases q : H b with
    | none => rfl
    | some u =>
      rcases only b (by rw [q]; simp) with z | ⟨p, hp, z⟩
      · subst z
        rw [at_] at e
        cases e
        exact absurd rfl (n1 _ _)
      · subst z
        rw [(tabs p hp).2] at e
        cases e
        exact absurd rfl n2
  have dicts : ∀ {b : Addr} {o : Obj} {es : Array DictEntry} {ep : Nat}, s.heap.get? b = some o → o.data = .dict es ep → H b = none := fun {b o es ep} e d => untracked e (fun vs n z => by rw [d] at z; cases z) (fun z => by rw [d] at z; cases z)
  have kFree : ∀ b o, K.lookup b = some o → H b = none := fun b o e => by
    cases q : H b with
    | none => rfl
    | some u =>
      rcases only b (by rw [q]; simp) with z | ⟨p, hp, z⟩
      · subst z
        rw [(fz (by rw [q]; simp)).1] at e; cases e
      · subst z
        rw [noK p hp] at e; cases e
  have nsUp : ∀ {b : Addr} {m : Str → Option Value}, s.heap.Ns b m → (hidT s.heap H).Ns b m := fun {b m} ⟨o, es, ep, e, d, r⟩ => ⟨o, es, ep, hidT_get e (dicts e d), d, r⟩
  have kBase : K.In (hidT s.heap H) := fun b o e => hidT_get (inK b o e) (kFree b o e)
  have md : Mod K mg (hidT s.heap H) := ⟨kBase, nsUp ns, ⟨mb, nsUp nb, bb⟩, lim.imp fun _ z => ⟨nsUp z.1, z.2⟩⟩
  have env : Env0 P w K mg (hidT s.heap H) callerA [] s H := ⟨rfl, md, fun b o e => of_hidT e, Nat.le_of_eq (hidT_size _ _), trivial, fun b hb => absurd (show b ∈ ([] : List Addr) from hb) (by simp), hok, .of_eq gn⟩
  have dictOf : ∀ {b : Addr} {m : Str → Option Value} {o : Obj}, s.heap.Ns b m → s.heap.get? b = some o → ∃ es ep, o.data = .dict es ep := fun {b m o} ⟨o2, es, ep, e, d, _⟩ e2 => by
    rw [e] at e2
    cases e2
    exact ⟨es, ep, d⟩
  have tb : ∀ p ∈ cs, LamX.TabB (hidT s.heap H) mg p.1 p.2 := fun p hp => by
    obtain ⟨C, obP⟩ := tabs p hp
    refine ⟨head_at C fun o e ⟨us, d, ne⟩ => untracked e (fun vs n z => by rw [d] at z; cases z) (fun z => by rw [d] at z; exact ne (Data.fields.inj z)), ?_, fun z => ?_⟩
    · obtain ⟨m, o, m1, m2, m3, m4, m5, m6⟩ := bm
      refine ⟨m, o, m1, m2, fun z => ?_, fun z => ?_, hidT_get m3 (untracked m3 (fun vs n z => by rw [m6] at z; cases z) (fun z => by rw [m6] at z; cases z)), m4, m5, m6⟩
      · subst z
        obtain ⟨es, ep, d⟩ := dictOf ns m3
        rw [m6] at d; cases d
      · subst z
        rw [obP] at m3
        cases m3
        cases m6
    · rw [← z] at obP
      obtain ⟨es, ep, d⟩ := dictOf ns obP
      cases d
  refine codeAny_mono ((F _ kBase (nsUp ns) tb).go callerA [] s H ⟨[.ref a], []⟩ [.ref a] [.ref a] _ _ room rfl env (bind s (.ref a)) (.cons rfl .nil) prom) fun r s2 done => ?_
  cases r with
  | error e =>
    obtain ⟨_, _, _, _, _, _, _, _, _, _, _, _, z⟩ := (show L2.CX P w [] H s (fun _ _ _ => False) e s2 from done)
    exact z.elim
  | ok fl =>
    cases fl with
    | next => exact (show False from done).elim
    | brk => exact (show False from done).elim
    | cont => exact (show False from done).elim
    | ret u =>
      obtain ⟨v, H2, os2, bare2, un, hok2, rv, qv⟩ := (show CE [] P w H s _ u s2 from done)
      have ev : v = .bl true := qv
      subst ev
      obtain rfl : u = Value.bool true := rv
      have tabs2 : ∀ p ∈ cs, ∃ more : Array Value, s2.heap.get? p.2 = some (PySem.W.tabObj more) := fun p hp => by
        obtain ⟨more, z⟩ := un.tbls p.2 #[] (inH p hp)
        exact ⟨_, hok2 p.2 _ z⟩
      have others : ∀ b o, (∀ p ∈ cs, p.2 ≠ b) → s.heap.get? b = some o → s2.heap.get? b = some o := fun b o nt e => by
        cases q : H b with
        | none => exact un.keep b o e q (by intro z; exact absurd (show b ∈ ([] : List Addr) from z) (by simp)) (by simp)
        | some u =>
          rcases only b (by rw [q]; simp) with z | ⟨p, hp, z⟩
          · subst z
            obtain ⟨_, u2, e3⟩ := fz (by rw [q]; simp)
            have e4 := (hok2 b _ (un.frzs b _ u2 e3)).1
            rw [at_] at e
            cases e
            exact e4
          · exact absurd z (nt p hp)
      refine ⟨rfl, ⟨fun b o e => ?_, fun b o e => ?_⟩, os2, bare2⟩
      · by_cases z : ∃ p ∈ cs, p.2 = b
        · obtain ⟨p, hp, rfl⟩ := z
          obtain ⟨C, obP⟩ := tabs p hp
          obtain ⟨more, e2⟩ := tabs2 p hp
          rw [obP] at e
          cases e
          refine .inr (.inl ⟨(C.tab obP).isCodeTable, rfl, #[], more, rfl, ?_⟩)
          rw [Array.empty_append]
          exact e2
        · exact .inl (others b o (fun p hp y => z ⟨p, hp, y⟩) e)
      · by_cases z : ∃ p ∈ cs, p.2 = b
        · obtain ⟨p, hp, rfl⟩ := z
          obtain ⟨more, e2⟩ := tabs2 p hp
          exact ⟨_, e2⟩
        · exact ⟨o, others b o (fun p hp y => z ⟨p, hp, y⟩) e⟩
end
abbrev tauOf (cq : List ((Addr × Addr) × Str)) : Tb := cq.map fun p => (p.1.2, p.2)
noncomputable def startH (cq : List ((Addr × Addr) × Str)) (a : Addr) (sc : Option HO) : Hp := fun b => open Classical in if b = a ∧ sc ≠ none then sc else if ∃ p ∈ cq, p.1.2 = b then some (.tbl #[]) else none
theorem startH_a {cq : List ((Addr × Addr) × Str)} {a : Addr} {u : HO} : startH cq a (some u) a = some u := if_pos ⟨rfl, by simp⟩
theorem startH_t {cq : List ((Addr × Addr) × Str)} {a b : Addr} {sc : Option HO} (h : b ≠ a ∨ sc = none) (hb : ∃ p ∈ cq, p.1.2 = b) : startH cq a sc b = some (.tbl #[]) := by
  unfold startH
  rw [if_neg (fun z => h.elim (fun y => y z.1) (fun y => z.2 y)), if_pos hb]
theorem startH_n {cq : List ((Addr × Addr) × Str)} {a b : Addr} {sc : Option HO} (h : b ≠ a ∨ sc = none) (hb : ¬ ∃ p ∈ cq, p.1.2 = b) : startH cq a sc b = none := by
  unfold startH
  rw [if_neg (fun z => h.elim (fun y => y z.1) (fun y => z.2 y)), if_neg hb]
theorem walk_fkT {l : PySem.W.OpenLaw} {n k : Nat} {q : Program} {loose : List Str} {XP : (Str → Option Value) → Heap → Prop} {YP : World → Heap → Prop} {d : DefRec} {K : Params → PySem.W.Frag} {x : Str} {g : Fn}
    (hn : l.most = some n) (hn2 : n ≤ sizeLine) (noDef : d.params.defaults = []) (room : Room k callerA) (hY : ∀ (w : World) (h : Heap), YP w h → (K w.params).In h)
    (F : ∀ (w : World) (mg : Str → Option Value) (fa : Addr) (h : Heap), (K w.params).In h → h.Ns mainGlobals mg → mg d.name = some (.ref fa) →
        (∀ (y : Str) (e : DefRec) (c P : Addr), (recsOf q).find? (fun e => e.name == y) = some e → PySem.W.tabIn (K w.params) y = some (c, P) → PySem.W.CodeHd h c P ∧ h.get? P = some (PySem.W.tabObj #[])) →
        ∃ (fd : FuncData) (cq : List ((Addr × Addr) × Str)), (∀ p ∈ cq, PySem.W.CodeHd h p.1.1 p.1.2 ∧ h.get? p.1.2 = some (PySem.W.tabObj #[])) ∧ (∀ p ∈ cq, (K w.params).lookup p.1.2 = none) ∧ (∀ (s : Shared) (u : Value), BindsTo s fd ⟨[u], []⟩ [(x, u)]) ∧
          ∀ base : Heap, (K w.params).In base → base.Ns mainGlobals mg → (∀ p ∈ cq, LamX.TabB base mg p.1.1 p.1.2) → Fk l.prog w (K w.params) mg base k fa fd [x] (spN (tauOf cq) (K w.params) mg 1 g))
    (law : ∀ ns : List Int, ns.length ≤ n → ∃ S, g [.scr ns] [] = .ok (.d (.bool true)) S) : PySem.W.WalkO q loose XP YP l.row.toRowW d [] (fun f vs => PySem.call f vs) := by
  refine Att.attach_call hn noDef fun w s₀ s₁ mg mb fa o pm cd doc a vs ns G Y ho hd hcd hmg hobj hints hlen hg => ?_
  have inK := hY w _ Y
  obtain ⟨fd, cq, tabs, noK, bind, hF⟩ := F w mg fa _ inK G.T.g hmg (fun y e c P h1 h2 => PySem.W.tab_of G.T inK h1 h2)
  obtain ⟨S, e⟩ := law ns hlen
  have rv := vals_ints hints
  have aT : ∀ p ∈ cq, p.1.2 ≠ a := fun p hp z => by
    have := (tabs p hp).2
    rw [z, hobj] at this
    cases this
  have at_ := fun {H : Hp} => law_atT (cs := cq.map (·.1)) (H := H) inK G.T.g G.T.b G.T.builtins G.T.nolimit hg hobj room G.T.bmain
    (fun p hp => by obtain ⟨q, hq, rfl⟩ := List.mem_map.mp hp; exact tabs q hq) (fun p hp => by obtain ⟨q, hq, rfl⟩ := List.mem_map.mp hp; exact noK q hq) (fun base h1 h2 h3 => hF base h1 h2 fun p hp => h3 _ (List.mem_map.mpr ⟨p, hp, rfl⟩)) bind
  have fin : ∀ {H : Hp} {F : Addr → Prop}, SG (tauOf cq) (K w.params) (fun _ => 0) F H [] → RepV (K w.params) mg (fun _ => 0) F H 0 (.ref a) (.scr ns) → spN (tauOf cq) (K w.params) mg 1 g [.ref a] H (fun v _ => v = .bl true) fun _ _ _ => False := fun {H F} sg r =>
    ⟨rfl, fun _ => 0, F, [.scr ns], [], sg, ⟨r, trivial⟩, by
      rw [e]
      intro φ' F' H' _ v r
      cases r
      rfl⟩
  have none_or : ∀ (sc : Option HO) b u, startH cq a sc b = some u → (b = a ∧ sc = some u) ∨ ((∃ p ∈ cq, p.1.2 = b) ∧ u = .tbl #[]) := fun sc b u z => by
    by_cases h1 : b = a ∧ sc ≠ none
    · unfold startH at z
      rw [if_pos h1] at z
      exact .inl ⟨h1.1, z⟩
    · have h1 : b ≠ a ∨ sc = none := by
        by_cases y : b = a
        · exact .inr (Classical.byContradiction fun w => h1 ⟨y, w⟩)
        · exact .inl y
      by_cases h2 : ∃ p ∈ cq, p.1.2 = b
      · rw [startH_t h1 h2] at z
        exact .inr ⟨h2, (Option.some.inj z).symm⟩
      · rw [startH_n h1 h2] at z; cases z
  have onlyOf : ∀ (sc : Option HO) b, startH cq a sc b ≠ none → b = a ∨ ∃ p ∈ cq.map (·.1), p.2 = b := fun sc b z => by
    cases y : startH cq a sc b with
    | none => exact absurd y z
    | some u =>
      rcases none_or sc b u y with h | ⟨⟨p, hp, h⟩, _⟩
      · exact .inl h.1
      · exact .inr ⟨_, List.mem_map.mpr ⟨p, hp, rfl⟩, h⟩
  have inOf : ∀ (sc : Option HO), ∀ p ∈ cq.map (·.1), startH cq a sc p.2 = some (.tbl #[]) := fun sc p hp => by
    obtain ⟨p0, hp0, rfl⟩ := List.mem_map.mp hp
    exact startH_t (.inl (aT p0 hp0)) ⟨p0, hp0, rfl⟩
  have tabOk : ∀ b, (∃ p ∈ cq, p.1.2 = b) → s₁.heap.get? b = some (PySem.W.tabObj #[]) := fun b ⟨p, hp, z⟩ => z ▸ (tabs p hp).2
  -- the start: what is tracked
  have sgOf : ∀ (sc : Option HO) (F : Addr → Prop), (∀ b, F b → b = a ∧ sc ≠ none) → (∀ u, sc = some u → Plain0 u) → SG (tauOf cq) (K w.params) (fun _ => 0) F (startH cq a sc) [] := fun sc F hF hp => by
    refine ⟨fun b hb => ?_, fun i o z => by simp at z, fun i j z => by simp at z, fun p hp => ?_, fun p hp z => ?_, fun b ps z => ?_, fun b c q z => ?_⟩
    · obtain ⟨rfl, h2⟩ := hF b hb
      cases sc with
      | none => exact absurd rfl h2
      | some u => rw [startH_a]; simp
    · obtain ⟨p0, hp0, rfl⟩ := List.mem_map.mp hp
      exact LamX.TabS.nil (startH_t (.inl (aT p0 hp0)) ⟨p0, hp0, rfl⟩)
    · obtain ⟨p0, hp0, rfl⟩ := List.mem_map.mp hp
      exact aT p0 hp0 (hF _ z).1
    · rcases none_or sc b _ z with ⟨_, h⟩ | ⟨⟨p, hp, h⟩, _⟩
      · exact absurd rfl ((hp _ h).1 ps)
      · exact ⟨_, List.mem_map.mpr ⟨p, hp, rfl⟩, h⟩
    · rcases none_or sc b _ z with ⟨_, h⟩ | ⟨_, h⟩
      · exact absurd rfl ((hp _ h).2 c q)
      · exact absurd h (LamX.codeO_ne _)
  cases hk : (K w.params).lookup a with
  | some ob =>
    have e1 := inK a ob hk
    rw [hobj] at e1
    cases e1
    refine at_ (H := startH cq a none) (fun b u z => ?_) (onlyOf none) (inOf none) (fun z => ?_) (fin (F := fun _ => False) (sgOf none _ (fun _ z => z.elim) (fun _ z => by cases z)) ⟨a, rfl, .inr ⟨_, vs.toArray, _, hk, rfl, rfl, rfl, ?_, by simpa using rv⟩⟩)
    · rcases none_or none b u z with ⟨_, h⟩ | ⟨h, rfl⟩
      · cases h
      · exact tabOk b h
    · have none : startH cq a none a = none := startH_n (.inr rfl) (fun ⟨p, hp, y⟩ => aT p hp y)
      exact absurd none z
    · rw [List.size_toArray, hints.length]
      exact Nat.le_trans hlen hn2
  | none =>
    refine at_ (H := startH cq a (some (.frz { cls := .type "list", data := .seq vs.toArray } (.lst (ns.map V.int))))) (fun b u z => ?_) (onlyOf _) (inOf _) (fun z => ⟨hk, _, startH_a⟩)
      (fin (F := fun b => b = a) (sgOf _ _ (fun _ z => ⟨z, by simp⟩) (fun u z => by cases z; exact ⟨fun _ y => (by cases y), fun _ _ y => (by unfold LamX.CodeO at y; cases y)⟩)) ⟨a, rfl, .inl ⟨rfl, _, startH_a⟩⟩)
    rcases none_or _ b u z with ⟨rfl, h⟩ | ⟨h, rfl⟩
    · cases h
      exact ⟨hobj, by rw [List.length_map]; exact Nat.le_trans hlen hn2, vs, _, rv, hobj⟩
    · exact tabOk b h
def eCallV (i : Nat) (t : Str → Option (Nat × Fn)) (fs : Av) : Ev := fun ρ S => match ρ[i]? with
  | some (some (Vl.glo x)) => match t x with
    | some (n, g) => eCallN n g fs ρ S
    | none => .bad
  | _ => .bad
@[simp] theorem ap_eCallV {i : Nat} {t : Str → Option (Nat × Fn)} {fs : Av} {ρ : Env} {S : Store} : eCallV i t fs ρ S = match ρ[i]? with
  | some (some (Vl.glo x)) => match t x with
    | some (n, g) => eCallN n g fs ρ S
    | none => .bad
  | _ => .bad := rfl
theorem rel_ref {v : V} {f : Addr} (h : RelV v (.ref f)) : v = .ref f := by
  cases v with
  | ref a => cases (show Value.ref f = Value.ref a from h); rfl
  | non => cases (show Value.ref f = Value.none from h)
  | bl b => cases (show Value.ref f = Value.bool b from h)
  | ty n => cases (show Value.ref f = Value.type n from h)
  | int i => obtain ⟨_, z⟩ := h; cases z
  | str i => obtain ⟨_, z⟩ := h; cases z
  | byt i => obtain ⟨_, z⟩ := h; cases z
  | flt i => obtain ⟨_, z⟩ := h; cases z
theorem de_callV {X : Cx} {W : WX} {j i : Nat} {a : Str} {t : Str → Option (Nat × Fn)} {fs : Av} {e : Expr} {es : List Expr} {p pos : Pos} (cc : Cc X W j) (ht : ∀ x n g, t x = some (n, g) → ∃ k, k ≤ j ∧ DefOk τ X.prog X.w X.K X.mg X.base k n x g) (hN : X.N[i]? = some a) (ha : DA τ X W (e :: es) fs)
    (hv : Vis X.env.scope a := by first | exact Or.inl rfl | exact Or.inr (Or.inl rfl) | exact Or.inr (Or.inr rfl)) (hd : (a == ("__debug__" : Str)) = false := by decide) (hcd : (a == ("__classdict__" : Str)) = false := by decide)
    (h1 : starEach (e :: es) X.env = (false, eval e X.env) :: starEach es X.env := by rfl) (h2 : (backTo pos (starEach es X.env)).any (·.1) = false := by rfl) : DE τ X W (.Call (.Name a p) (e :: es) [] pos) (eCallV i t fs) := by
  refine ⟨⟨fun pins s σ H Q I ⟨φ, F, ρ, S, sg, sl, post⟩ => ?_⟩⟩
  unfold eCallV at post
  split at post
  case h_2 => exact post.elim
  rename_i x at0
  split at post
  case h_2 => exact post.elim
  rename_i n g tx
  obtain ⟨k, kj, ok⟩ := ht x n g tx
  obtain ⟨f, fd, ps, G, there, keep, bi⟩ := ok.ex
  obtain ⟨v, hσ, u0, mu, rv⟩ := sl.2 i _ at0
  rw [there] at mu
  cases mu
  obtain rfl := rel_ref rv
  refine wpAny_Call_Name_kw (thn ((pe_var (pos := p) (i := i) hN hv hd hcd).run pins s σ H (fun v H1 => v = .ref f ∧ H1 = H) I ⟨_, hσ, rfl, rfl⟩) fun u s1 ⟨v, H1, I1, r1, ev, eH⟩ => ?_)
  subst ev eH
  obtain rfl : u = Value.ref f := r1
  have post : PostG τ X.K X.mg (RepV X.K X.mg) (fun c od H' => W c od σ H') S.length φ F H1 Q ((fs ρ S).bind fun vs S1 => if vs.length = n then g vs S1 else .bad) := post
  have args : RA τ X.K X.mg W fs σ H1 fun vs H2 => spN τ X.K X.mg n g vs H2 Q fun c d H3 => W c d σ H3 := ⟨φ, F, ρ, S, sg, sl, PostG.bind sg post fun φ1 F1 H2 S1 vs xs nw1 r1 p1 => by
    by_cases hl : vs.length = n
    · rw [if_pos hl] at p1
      exact ⟨r1.len.trans hl, φ1, F1, vs, S1, nw1.sg, r1, p1⟩
    · rw [if_neg hl] at p1; exact p1.elim⟩
  exact PySem.W.callWith_K (h₀ := X.base) I1.ok.mod.kin keep (thn (ha.r.run pos pins s1 σ H1 _ I1 args) fun us s2 ⟨vs, H2, J2, r, q⟩ => ⟨J2.kIn, run_fk G (cc.rm.mono kj) cc.gd bi cc.tk J2 r q⟩) h1 h2
def glosOf : List Vl → Option (List Str)
  | [] => some []
  | .glo x :: vs => (glosOf vs).map fun xs => x :: xs
  | _ => none
def eGlos (f : Av) : Ev := fun ρ S => (f ρ S).bind fun vs S1 => match glosOf vs with
  | some xs => if xs.length ≤ 1000 then .ok (.glos xs) S1 else .bad
  | none => .bad
@[simp] theorem ap_eGlos {f : Av} {ρ : Env} {S : Store} : eGlos f ρ S = (f ρ S).bind fun vs S1 => match glosOf vs with
  | some xs => if xs.length ≤ 1000 then .ok (.glos xs) S1 else .bad
  | none => .bad := rfl
theorem glos_of {K : PySem.W.Frag} {mg : Str → Option Value} {φ : Nat → Addr} {F : Addr → Prop} {H : Hp} {n : Nat} : ∀ {vs : List V} {ws : List Vl} {xs : List Str}, RepVs K mg φ F H n vs ws → glosOf ws = some xs → RepG mg vs xs ∧ vs.length = xs.length
  | [], [], xs, _, h => by cases h; exact ⟨trivial, rfl⟩
  | v :: vs, w :: ws, xs, r, h => by
    cases w with
    | glo x =>
      simp only [glosOf, Option.map_eq_some_iff] at h
      obtain ⟨ys, h1, rfl⟩ := h
      obtain ⟨a, b⟩ := glos_of r.2 h1
      exact ⟨⟨r.1, a⟩, by simp [b]⟩
    | _ => simp [glosOf] at h
  | [], _ :: _, _, r, _ => r.elim
  | _ :: _, [], _, r, _ => r.elim
theorem de_glos {X : Cx} {W : WX} {es : List Expr} {fs : Av} {kk : Nat} {pos : Pos} (h : DA τ X W es fs) : DE τ X W (.Tuple es kk pos) (eGlos fs) := ⟨PE.mono (pe_tup h.r) fun σ H Q ⟨φ, F, ρ, S, g, sl, p⟩ => ⟨φ, F, ρ, S, g, sl, PostG.bind g p fun φ1 F1 H1 S1 vs xs nw1 r1 p1 => by
  split at p1
  · rename_i ys q
    by_cases hl : ys.length ≤ 1000
    · rw [if_pos hl] at p1
      obtain ⟨a, b⟩ := glos_of r1 q
      refine ⟨by rw [b]; exact line1000 hl, fun t ht => ?_⟩
      have nw2 := nw1.sg.fresh (o := .tup xs) ht
      exact PostG.start nw1.sg nw2 p1 _ _ _ (.refl nw2.sg) _ ⟨t, xs, rfl, .inr rfl, upd_same, a⟩
    · rw [if_neg hl] at p1; exact p1.elim
  · exact p1.elim⟩⟩
theorem RepG.get {mg : Str → Option Value} : ∀ {vs : List V} {xs : List Str} {i : Nat} {x : Str}, RepG mg vs xs → xs[i]? = some x → ∃ v, vs[i]? = some v ∧ ∃ u, mg x = some u ∧ RelV v u
  | _ :: _, _ :: _, 0, _, h, e => by cases e; exact ⟨_, rfl, h.1⟩
  | _ :: _, _ :: _, i + 1, x, h, e => RepG.get (i := i) h.2 (by simpa using e)
  | [], _ :: _, _, _, h, _ => h.elim
  | [], [], _, _, _, e => by simp at e
  | _ :: _, [], _, _, _, e => by simp at e
theorem RepG.len {mg : Str → Option Value} : ∀ {vs : List V} {xs : List Str}, RepG mg vs xs → vs.length = xs.length
  | [], [], _ => rfl
  | _ :: _, _ :: _, h => by simp [RepG.len h.2]
  | [], _ :: _, h => h.elim
  | _ :: _, [], h => h.elim
def forG (g : Tg) (b : Sv) : List Str → Env → Store → SRes
  | [], ρ, S => .nx ρ S
  | x :: xs, ρ, S => match g (.glo x) ρ with
    | none => .bad
    | some ρ1 => match b ρ1 S with
      | .nx ρ2 S2 => forG g b xs ρ2 S2
      | .ct ρ2 S2 => forG g b xs ρ2 S2
      | .bk ρ2 S2 => .nx ρ2 S2
      | r => r
def sForG (f : Ev) (g : Tg) (b : Sv) : Sv := fun ρ S => (f ρ S).st ρ fun v S1 => match v with
  | .glos xs => forG g b xs ρ S1
  | _ => .bad
@[simp] theorem ap_sForG {f : Ev} {g : Tg} {b : Sv} {ρ : Env} {S : Store} : sForG f g b ρ S = (f ρ S).st ρ fun v S1 => match v with
  | .glos xs => forG g b xs ρ S1
  | _ => .bad := rfl
theorem ds_forG {X : Cx} {W : WX} {j : Nat} {tg it : Expr} {body : List Stmt} {pos : Pos} {f : Ev} {g : Tg} {ws : List Nat} {sb : Sv} (cc : Cc X W j) (h : DE τ X W it f) (hg : DG τ X tg g ws) (hb : DB τ X W body sb) (hs : ∀ x, foldedSetIterable it X.env x = pure x := by intro _; rfl) : DS τ X W (.For tg it body [] pos) (sForG f g sb) :=
  ⟨PS.mono (ps_for cc.po cc.calm (pi_seq h.r) hg.r hb.r hs) fun E σ H ⟨φ, F, ρ, S, gs, sl, p⟩ => ⟨φ, F, ρ, S, gs, sl, PostS.st (R := RepV X.K X.mg) gs sl p fun φ1 F1 H1 S1 v x nw1 r1 p1 => by
    cases v <;> first | exact p1.elim | skip
    rename_i xs
    obtain ⟨a, vs, rfl, fa, ha, rg⟩ := r1
    have p1 : PostS τ X.K X.mg W S1.length φ1 F1 H1 E (forG g sb xs ρ S1) := p1
    have at_ : ∀ {H2 : Hp}, Agree F1 H1 H2 → SqT X.K H2 a vs := fun ag => .inl (.inl ((ag a fa).trans ha))
    refine ⟨a, rfl, .inr ⟨⟨vs, at_ (fun _ _ => rfl)⟩, ?_⟩⟩
    have wk : Walk (Itt X.K a) xs.length (Agree F1 H1) (fun i H' v H'' => H'' = H' ∧ ∃ x, xs[i]? = some x ∧ ∃ u, X.mg x = some u ∧ RelV v u) := by
      refine ⟨fun i H2 hi ag => ?_, fun H2 ag => ⟨vs, at_ ag, by rw [rg.len]; exact Nat.le_refl _⟩, fun i H2 v H3 hi ag y => ?_⟩
      · obtain ⟨v, hv, _⟩ := rg.get (List.getElem?_eq_getElem hi)
        exact ⟨vs, v, at_ ag, hv⟩
      · obtain ⟨v', hv, ru⟩ := rg.get (List.getElem?_eq_getElem hi)
        have e := y.2 vs (at_ ag)
        rw [hv] at e
        cases e
        exact ⟨y.1, xs[i], List.getElem?_eq_getElem hi, ru⟩
    refine for_it wk (fun i σ2 H2 => ∃ φ2 F2 ρ2 S2, Now τ X.K S1.length φ1 F1 H1 φ2 F2 H2 S2 ∧ Slots X.K X.mg φ2 F2 H2 S2.length σ2 ρ2 ∧ PostS τ X.K X.mg W S2.length φ2 F2 H2 E (forG g sb (xs.drop i) ρ2 S2)) ⟨φ1, F1, ρ, S1, .refl nw1.sg, sl.now nw1, p1⟩ (fun i σ2 H2 _ ⟨_, _, _, _, n, _⟩ b hb => n.ext.same b hb) ?_ ?_
    · intro i v σ2 H2 H3 hlt ⟨φ2, F2, ρ2, S2, nw2, sl2, p2⟩ ⟨eH, x, hx, ru⟩
      subst eH
      have hdr : xs.drop i = x :: xs.drop (i + 1) := by
        obtain ⟨h1, h2⟩ := List.getElem?_eq_some_iff.mp hx
        rw [← h2, List.drop_eq_getElem_cons h1]
      rw [hdr] at p2
      refine ⟨φ2, F2, ρ2, S2, .glo x, nw2.sg, sl2, ru, ?_⟩
      unfold forG at p2
      cases q : g (.glo x) ρ2 with
      | none => rw [q] at p2; exact p2.elim
      | some ρ3 =>
        simp only [q] at p2 ⊢
        refine fun σ3 sl4 _ => ⟨φ2, F2, ρ3, S2, nw2.sg, sl4, ?_⟩
        cases e : sb ρ3 S2 with
        | nx ρ4 S4 =>
          simp only [e] at p2
          exact fun φ5 F5 H5 nw5 σ5 sl5 => ⟨φ5, F5, ρ4, S4, Now.trans nw1.sg nw2 nw5, sl5, PostS.start nw2.sg nw5 p2⟩
        | ct ρ4 S4 =>
          simp only [e] at p2
          exact fun φ5 F5 H5 nw5 σ5 sl5 => ⟨φ5, F5, ρ4, S4, Now.trans nw1.sg nw2 nw5, sl5, PostS.start nw2.sg nw5 p2⟩
        | bk ρ4 S4 => simp only [e] at p2; exact p2
        | ret v4 S4 => simp only [e] at p2; exact p2
        | ex x4 ρ4 S4 => simp only [e] at p2; exact p2
        | bad => simp only [e] at p2; exact p2
    · intro σ2 H2 ⟨φ2, F2, ρ2, S2, nw2, sl2, p2⟩
      rw [List.drop_length] at p2
      exact PostS.nx nw2.sg sl2 p2⟩⟩
structure TryF (K : PySem.W.Frag) (mg : Str → Option Value) (c : Str) (sub : Str → Option Bool) : Prop where
  ex : ∃ C : Addr, mg c = some (.ref C) ∧ ∀ (y : Str) (cls : Value) (b : Bool), mg y = some cls → sub y = some b → PySem.W.exmOne K cls (.ref C) = some b
theorem TryF.mk' {K : PySem.W.Frag} {mg : Str → Option Value} {c : Str} {h : Heap} {C : Addr} (X : K.In h) (G : h.Ns mainGlobals mg) (l : List (Str × Bool)) (a : PySem.W.nsIn K mainGlobals c = some (some (.ref C)))
    (all : ∀ p ∈ l, ∃ D : Addr, PySem.W.nsIn K mainGlobals p.1 = some (some (.ref D)) ∧ PySem.W.exmOne K (.ref D) (.ref C) = some p.2) : TryF K mg c (fun y => l.lookup y) := ⟨C, PySem.W.mg_of X G a, fun y cls b hy hb => by
  obtain ⟨D, h1, h2⟩ := all (y, b) (PySem.mem_of_lookup hb)
  rw [PySem.W.mg_of X G h1] at hy
  cases hy
  exact h2⟩
structure IsF (K : PySem.W.Frag) (mg : Str → Option Value) (c : Str) (kit : Str → Option Bool) : Prop where
  ex : ∃ (cv : Value) (c0 : V), (∀ u, RelV c0 u → u = cv) ∧ (∀ (X : Cx) (p : Pos), X.mg = mg → Gl X c → PE X (.Name c p) (tC c0)) ∧ ∀ (y : Str) (cls : Value) (b : Bool), mg y = some cls → kit y = some b → ∃ D : Addr, cls = .ref D ∧ PySem.W.kitOne K cls cv = some b ∧ ExcC K D
theorem isF_all {K : PySem.W.Frag} {mg : Str → Option Value} {h : Heap} {cv : Value} (X : K.In h) (G : h.Ns mainGlobals mg) (l : List (Str × Bool)) (all : ∀ p ∈ l, ∃ D : Addr, PySem.W.nsIn K mainGlobals p.1 = some (some (.ref D)) ∧ PySem.W.kitOne K (.ref D) cv = some p.2 ∧ ExcC K D) :
    ∀ (y : Str) (cls : Value) (b : Bool), mg y = some cls → l.lookup y = some b → ∃ D : Addr, cls = .ref D ∧ PySem.W.kitOne K cls cv = some b ∧ ExcC K D := fun y cls b hy hb => by
  obtain ⟨D, h1, h2, h3⟩ := all (y, b) (PySem.mem_of_lookup hb)
  rw [PySem.W.mg_of X G h1] at hy
  cases hy
  exact ⟨D, rfl, h2, h3⟩
theorem IsF.cls' {K : PySem.W.Frag} {mg : Str → Option Value} {c : Str} {h : Heap} {C : Addr} (X : K.In h) (G : h.Ns mainGlobals mg) (hd : (c == ("__debug__" : Str)) = false) (l : List (Str × Bool)) (a : PySem.W.nsIn K mainGlobals c = some (some (.ref C)))
    (all : ∀ p ∈ l, ∃ D : Addr, PySem.W.nsIn K mainGlobals p.1 = some (some (.ref D)) ∧ PySem.W.kitOne K (.ref D) (.ref C) = some p.2 ∧ ExcC K D) : IsF K mg c (fun y => l.lookup y) :=
  ⟨.ref C, .ref C, fun u h => h, fun Y p e hg => pe_glob hg (by rw [e]; exact PySem.W.mg_of X G a) rfl hd, isF_all X G l all⟩
theorem IsF.blt' {K : PySem.W.Frag} {mg : Str → Option Value} {c : Str} {h : Heap} {T : String} (X : K.In h) (G : h.Ns mainGlobals mg) (hd : (c == ("__debug__" : Str)) = false) (hn : c ≠ "__name__") (hb : bootBuiltins c = some (.type T)) (l : List (Str × Bool)) (a : PySem.W.nsIn K mainGlobals c = some none)
    (all : ∀ p ∈ l, ∃ D : Addr, PySem.W.nsIn K mainGlobals p.1 = some (some (.ref D)) ∧ PySem.W.kitOne K (.ref D) (.type T) = some p.2 ∧ ExcC K D) : IsF K mg c (fun y => l.lookup y) :=
  ⟨.type T, .ty T, fun u h => h, fun Y p e hg => pe_bltn hg (by rw [e]; exact PySem.W.mg_none_of X G a) hb rfl hn hd, isF_all X G l all⟩
def eIsK (i : Nat) (a : Addr) (o : Option Bool) : Ev := fun ρ S => match o with
  | some b => eIsE i a b ρ S
  | none => .bad
@[simp] theorem ap_eIsK {i : Nat} {a : Addr} {b : Bool} {ρ : Env} {S : Store} : eIsK i a (some b) ρ S = eIsE i a b ρ S := rfl
theorem de_isK {X : Cx} {a : Addr} {oe : Obj} {pn : List (Addr × Obj)} {n c y : Str} {cls : Value} {i : Nat} {kit : Str → Option Bool} {p p1 p2 pos : Pos} (I : IsF X.K X.mg c kit) (hc : Gl X c) (hy : X.mg y = some cls) (hz : Zc cls none oe) (hf : ∃ vs, oe.data = .fields vs) (hN : X.N[i]? = some n)
    (hg : Gl X "isinstance") (hm : X.mg "isinstance" = none) (hvis : Vis X.env.scope n := by first | exact Or.inl rfl | exact Or.inr (Or.inl rfl) | exact Or.inr (Or.inr rfl))
    (hd : (n == ("__debug__" : Str)) = false := by decide) (hcd : (n == ("__classdict__" : Str)) = false := by decide)
    (h1 : starEach [.Name n p1, .Name c p2] X.env = (false, eval (.Name n p1) X.env) :: starEach [.Name c p2] X.env := by rfl) (h2 : starEach [.Name c p2] X.env = (false, eval (.Name c p2) X.env) :: starEach [] X.env := by rfl) (h3 : (backTo pos (starEach [.Name c p2] X.env)).any (·.1) = false := by rfl) :
    DE τ (X.suite a ((a, oe) :: pn)) W0 (.Call (.Name "isinstance" p) [.Name n p1, .Name c p2] [] pos) (eIsK i a (kit y)) := by
  obtain ⟨cv, c0, h4, h5, h6⟩ := I.ex
  cases e : kit y with
  | none => exact ⟨PE.mono (t := fun _ _ _ => False) ⟨fun pins s σ H Q I h => h.elim⟩ fun σ H Q ⟨φ, F, ρ, S, g, sl, q⟩ => q⟩
  | some b =>
    obtain ⟨D, rfl, h7, h8⟩ := h6 y cls b hy e
    exact de_isE h8 hz hf hN hvis (h5 _ p2 rfl hc) h4 h7 hg hm hd hcd h1 h2 h3
theorem ds_tryF {X : Cx} {W : WX} {k i : Nat} {x n : Str} {body suite : List Stmt} {b₀ : Stmt} {np pos pos' : Pos} {fb : Sv} {sub : Str → Option Bool} {fs : Addr → Xn → Sv} (cc : Cc X W k) (T : TryF X.K X.mg x sub) (hi : X.N[i]? = some n) (hln : X.env.kindOf n = some .local) (hg : Gl X x)
    (hb : ∀ (W' : WX) (pn : List (Addr × Obj)) (xe : Value → Shared → Prop), Takes (X.tr pn xe) W' → Cc (X.tr pn xe) W' k → DB τ (X.tr pn xe) W' body fb)
    (hsu : ∀ (a : Addr) (oe : Obj) (y : Xn) (cls : Value) (pn : List (Addr × Obj)), X.mg y.cls = some cls → Zc cls none oe → (∃ vs, oe.data = .fields vs) → DB τ (X.suite a ((a, oe) :: pn)) W0 (b₀ :: suite) (fs a y))
    (hd : (x == ("__debug__" : Str)) = false := by decide) (hs : X.stack = X.env :: X.outer := by rfl) (hf : X.env.frame = some X.env.locals := by rfl) :
    DS τ X W (.Try body [.ExceptHandler (some (.Name x np)) (some n) (b₀ :: suite) pos'] [] [] pos) (sTryAs i fb sub fs) := by
  obtain ⟨C, h1, h2⟩ := T.ex
  exact ds_tryAs cc hi hln ⟨hg, hd, .inl h1⟩ h2 (fun W' pn xe tk po => hb W' pn xe tk (cc.tr tk po)) (fun a oe y cls pn e1 _ _ hz hv => (hsu a oe y cls pn e1 hz hv).r) hs hf
def eDic1 (m : Bool) (i : Int) (f : Ev) : Ev := fun ρ S => (f ρ S).bind fun v S1 => (fr v S1).bind fun d S2 => mkK m [(.int i, d)] S2
@[simp] theorem ap_eDic1 {m : Bool} {i : Int} {f : Ev} {ρ : Env} {S : Store} : eDic1 m i f ρ S = (f ρ S).bind fun v S1 => (fr v S1).bind fun d S2 => mkK m [(.int i, d)] S2 := rfl
theorem de_dic1 {X : Cx} {W : WX} {i : Int} {j : Nat} {e : Expr} {f : Ev} {p1 pos : Pos} (m : Bool) (h : DE τ X W e f) : DE τ X W (.Dict [some (.Constant (.int i) j p1)] [e] pos) (eDic1 m i f) :=
  ⟨PE.mono (pe_disp (pps_cons pe_int h.r pps_nil) (by rfl) (by rfl) (by simp) (by simp)) fun σ H Q ⟨φ, F, ρ, S, g, sl, p⟩ pD hD => by
    have nF : ¬ F pD := fun z => g.dom pD z hD
    have far : ∀ i, i < S.length → φ i ≠ pD := fun i hi => g.neAt hi hD
    have nw0 := (Now.refl g).other (o := .dK []) hD (.inl hD) g.dom nF far
    have p : Post τ X.K X.mg (fun c od H' => W c od σ H') S.length φ F H Q ((f ρ S).bind fun v S1 => (fr v S1).bind fun d S2 => mkK m [(.int i, d)] S2) := p
    refine ⟨φ, F, ρ, S, nw0.sg, sl.now nw0, ?_⟩
    cases e : f ρ S with
    | bad => rw [e] at p; exact p.elim
    | ex x S1 => rw [e] at p; exact fun φ1 F1 H1 nw1 c od rx => p φ1 F1 H1 (Now.trans g nw0 nw1) c od rx
    | ok v S1 =>
      rw [e] at p
      simp only [bind_ok] at p
      intro φ1 F1 H1 nw1 x r1
      have hne : fr v S1 ≠ .bad := fun z => by rw [z] at p; exact p
      obtain ⟨φ2, F2, S2, d, nw2, f2, e2⟩ := fr_ok nw1.sg r1 hne
      rw [e2] at p
      simp only [bind_ok] at p
      have nw12 := Now.trans nw0.sg nw1 nw2
      obtain ⟨a1, a2, a3⟩ := nw12.priv (p := pD) (by rw [upd_same]; simp) (by rw [upd_same]; simp) nF far
      rw [upd_same] at a1
      have nw3 := (Now.trans g nw0 nw12).other (o := .dK [(.inl i, x)]) hD (.inr ⟨_, a1, plain_dK⟩) g.dom a2 a3
      have fz3 : FzKv X.K F2 (upd H1 pD (.dK [(.inl i, x)])) [(.inl i, x)] [(.int i, d)] := .cons (f2.ext (fun _ z => z) fun a ha => upd_ne fun z => a2 (by rw [← z]; exact ha)) .nil
      refine ⟨a1, [(.inl i, x)], rfl, by simp, ?_⟩
      show Q (.ref pD) (upd H1 pD (.dK [(.inl i, x)]))
      cases m with
      | true => exact p _ _ _ (nw3.keep hD a3 ⟨a2, _, upd_same, fz3⟩) _ ⟨by simp, by simp⟩
      | false => exact p _ _ _ (nw3.take hD (by rw [upd_same]; simp) (by rw [upd_same]; simp) a3) _ (.dct (.inr rfl) upd_same (fz3.ext (fun _ z => .inl z) fun _ _ => rfl))⟩
structure DefL (τ : Tb) (K : PySem.W.Frag) (mg : Str → Option Value) (base : Heap) (x y : Str) (st : Stmt) : Prop where
  ex : ∃ (f : Addr) (oc : Value) (od : Option Addr) (kV doc pm : Value) (an : Option Addr) (c P : Addr) (ct : Value) (osl : Array (Option Value)), mg x = some (.ref f) ∧
    K.lookup f = some ⟨oc, od, .func (PySem.W.fnOf y y (defArgs st) (defBody st) (defScope st) .none kV doc pm an (.ref c) ct), osl⟩ ∧ PySem.W.codeIn K (.ref c) y = true ∧ PySem.W.keepIn K (.ref f) = true ∧
    LamX.TabB base mg c P ∧ (P, y ++ ".<locals>." ++ "<lambda>") ∈ τ ∧ ∀ q ∈ τ, q.1 = P → q.2 = y ++ ".<locals>." ++ "<lambda>"
theorem DefL.mk' {τ : Tb} {K : PySem.W.Frag} {mg : Str → Option Value} {base : Heap} {x y : Str} {st : Stmt} {h : Heap} {f : Addr} {oc : Value} {od : Option Addr} {kV doc pm : Value} {an : Option Addr} {c P : Addr} {ct : Value} {osl : Array (Option Value)} (X : K.In h) (G : h.Ns mainGlobals mg) (T : LamX.TabB base mg c P)
    (a : PySem.W.nsIn K mainGlobals x = some (some (.ref f))) (l : K.lookup f = some ⟨oc, od, .func (PySem.W.fnOf y y (defArgs st) (defBody st) (defScope st) .none kV doc pm an (.ref c) ct), osl⟩) (co : PySem.W.codeIn K (.ref c) y = true) (k : PySem.W.keepIn K (.ref f) = true)
    (inT : (P, y ++ ".<locals>." ++ "<lambda>") ∈ τ) (one : ∀ q ∈ τ, q.1 = P → q.2 = y ++ ".<locals>." ++ "<lambda>") : DefL τ K mg base x y st := ⟨f, oc, od, kV, doc, pm, an, c, P, ct, osl, PySem.W.mg_of X G a, l, co, k, T, inT, one⟩
section
variable {P : Program} {w : World} {K : PySem.W.Frag} {mg : Str → Option Value} {base : Heap}
theorem def_okL {x y : Str} {st : Stmt} {N ps : List Str} {k n : Nat} {b : Sv} (Fu : DefL τ K mg base x y st) (Sc : FnScope N ps (defScope st)) (hn : ps.length = n)
    (bi : ∀ (kV doc pm : Value) (an : Option Addr) (cdv ct : Value) (us : List Value), us.length = ps.length → bindArgs (PySem.W.fnOf y y (defArgs st) (defBody st) (defScope st) .none kV doc pm an cdv ct) ⟨us, []⟩ = pure (ps.zip us))
    (body : ∀ (f : Addr) (cdv : Value) (B : Around) (fs : List PySem.Env) (s : Shared) (H : Hp) (E : XK), Lh τ (cxD P w K mg base N y st f cdv B fs s H E) → Cc (cxD P w K mg base N y st f cdv B fs s H E) (wD E) k → DB τ (cxD P w K mg base N y st f cdv B fs s H E) (wD E) (defBody st) b) :
    DefOk τ P w K mg base (k + 1) n x (fnOf N.length b) := by
  obtain ⟨f, oc, od, kV, doc, pm, an, c, Pa, ct, osl, h1, h2, h3, h4, h5, h6, h7⟩ := Fu.ex
  have F := fun_mk (st := st) h2 h3 h4
  subst hn
  exact ⟨f, _, ps, fk_fnC F Sc (fun cdv hc B fs s H E => body f cdv B fs s H E ⟨c, Pa, hc.symm, h5, h6, h7⟩), h1, h4, F.binds bi⟩
theorem law_endL {st : Stmt} {N : List Str} {fa : Addr} {x y : Str} {k : Nat} {b : Sv} {p : Str} (Fu : DefL τ K mg base x y st) (hfa : mg x = some (.ref fa)) (Sc : FnScope N [p] (defScope st))
    (body : ∀ (f : Addr) (cdv : Value) (B : Around) (fs : List PySem.Env) (s : Shared) (H : Hp) (E : XK), Lh τ (cxD P w K mg base N y st f cdv B fs s H E) → Cc (cxD P w K mg base N y st f cdv B fs s H E) (wD E) k → DB τ (cxD P w K mg base N y st f cdv B fs s H E) (wD E) (defBody st) b) {fd : FuncData}
    (same : ∃ (oc : Value) (od : Option Addr) (osl : Array (Option Value)), K.lookup fa = some ⟨oc, od, .func fd, osl⟩) : Fk P w K mg base (k + 1) fa fd [p] (spN τ K mg 1 (fnOf N.length b)) := by
  obtain ⟨f, oc, od, kV, doc, pm, an, c, Pa, ct, osl, h1, h2, h3, h4, h5, h6, h7⟩ := Fu.ex
  have e := hfa.symm.trans h1
  cases e
  obtain ⟨oc2, od2, osl2, h⟩ := same
  rw [h2] at h
  cases h
  exact fk_fnC (fun_mk (st := st) h2 h3 h4) Sc fun cdv hc B fs s H E => body fa cdv B fs s H E ⟨c, Pa, hc.symm, h5, h6, h7⟩
theorem law_endF {st : Stmt} {N : List Str} {fa : Addr} {x y : Str} {k : Nat} {b : Sv} {p : Str} (Fu : DefF K mg x y st) (hfa : mg x = some (.ref fa)) (Sc : FnScope N [p] (defScope st))
    (body : ∀ (f : Addr) (cdv : Value) (B : Around) (fs : List PySem.Env) (s : Shared) (H : Hp) (E : XK), Cc (cxD P w K mg base N y st f cdv B fs s H E) (wD E) k → DB τ (cxD P w K mg base N y st f cdv B fs s H E) (wD E) (defBody st) b) {fd : FuncData}
    (same : ∃ (oc : Value) (od : Option Addr) (osl : Array (Option Value)), K.lookup fa = some ⟨oc, od, .func fd, osl⟩) : Fk P w K mg base (k + 1) fa fd [p] (spN τ K mg 1 (fnOf N.length b)) := by
  obtain ⟨f, oc, od, kV, doc, pm, an, cdv, ct, osl, h1, h2, h3, h4⟩ := Fu.ex
  have e := hfa.symm.trans h1
  cases e
  obtain ⟨oc2, od2, osl2, h⟩ := same
  rw [h2] at h
  cases h
  exact fk_fn (fun_mk (st := st) h2 h3 h4) Sc fun cdv B fs s H E => body fa cdv B fs s H E
theorem law_fd {x y : Str} {st : Stmt} {fa : Addr} {p : Str} {h : Heap} {f : Addr} {oc : Value} {od : Option Addr} {kV doc pm : Value} {an : Option Addr} {cdv ct : Value} {osl : Array (Option Value)} (X : K.In h) (G : h.Ns mainGlobals mg) (hfa : mg x = some (.ref fa)) (a : PySem.W.nsIn K mainGlobals x = some (some (.ref f)))
    (l : K.lookup f = some ⟨oc, od, .func (PySem.W.fnOf y y (defArgs st) (defBody st) (defScope st) .none kV doc pm an cdv ct), osl⟩)
    (bi : ∀ (kV doc pm : Value) (an : Option Addr) (cdv ct : Value) (s : Shared) (v : Value), BindsTo s (PySem.W.fnOf y y (defArgs st) (defBody st) (defScope st) .none kV doc pm an cdv ct) ⟨[v], []⟩ [(p, v)]) :
    ∃ fd : FuncData, (∃ (oc : Value) (od : Option Addr) (osl : Array (Option Value)), K.lookup fa = some ⟨oc, od, .func fd, osl⟩) ∧ ∀ (s : Shared) (u : Value), BindsTo s fd ⟨[u], []⟩ [(p, u)] := by
  have e := hfa.symm.trans (PySem.W.mg_of X G a)
  cases e
  exact ⟨_, ⟨_, _, _, l⟩, fun s u => bi _ _ _ _ _ _ s u⟩
theorem lam_ok {x y a : Str} {st : Stmt} {N : List Str} {k : Nat} {b : Ev → Sv} {gw : Ev → Fn} (Fu : DefF K mg x y st) (Sc : FnScope N [a] (defScope st)) (h0 : N[0]? = some a) (vis : Vis (defScope st) a) (d1 : (a == ("__debug__" : Str)) = false) (d2 : (a == ("__classdict__" : Str)) = false) (hg : ∀ act, gw act = fnOf N.length (b act))
    (bi : ∀ (kV doc pm : Value) (an : Option Addr) (cdv ct : Value) (us : List Value), us.length = 1 → bindArgs (PySem.W.fnOf y y (defArgs st) (defBody st) (defScope st) .none kV doc pm an cdv ct) ⟨us, []⟩ = pure (([a] : List Str).zip us))
    (body : ∀ (f : Addr) (cdv : Value) (B : Around) (fs : List PySem.Env) (s : Shared) (H : Hp) (E : XK) (act : Ev), Cc (cxD P w K mg base N y st f cdv B fs s H E) (wD E) k →
      (∀ (W : WX) (pn : List (Addr × Obj)) (xe : Value → Shared → Prop) (p1 p2 : Pos), Takes ((cxD P w K mg base N y st f cdv B fs s H E).tr pn xe) W → DE τ ((cxD P w K mg base N y st f cdv B fs s H E).tr pn xe) W (.Call (.Name a p1) [] [] p2) act) →
      DB τ (cxD P w K mg base N y st f cdv B fs s H E) (wD E) (defBody st) (b act)) : LamOk τ P w K mg base k x gw := by
  obtain ⟨f, oc, od, kV, doc, pm, an, cdv, ct, osl, h1, h2, h3, h4⟩ := Fu.ex
  have F := fun_mk (st := st) h2 h3 h4
  exact ⟨f, y, a, st, _, N, b, F, h1, h4, F.binds bi, Sc, h0, vis, d1, d2, hg, fun cdv B fs s H E act cc ha => body f cdv B fs s H E act cc ha⟩
end
theorem tab_use {K : PySem.W.Frag} {h : Heap} {q : Program} {x : Str} {f c P : Addr} {goal : Prop} {e : DefRec} {oc : Value} {od : Option Addr} {fd : FuncData} {osl : Array (Option Value)} {oc2 : Value} {od2 : Option Addr} {vs : Array Value} {osl2 : Array (Option Value)}
    (TT : ∀ (y : Str) (e : DefRec) (c P : Addr), (recsOf q).find? (fun e => e.name == y) = some e → PySem.W.tabIn K y = some (c, P) → PySem.W.CodeHd h c P ∧ h.get? P = some (PySem.W.tabObj #[]))
    (r : (recsOf q).find? (fun e => e.name == x) = some e) (a : PySem.W.nsIn K mainGlobals x = some (some (.ref f))) (l : K.lookup f = some ⟨oc, od, .func fd, osl⟩) (hc : fd.code = .ref c) (lc : K.lookup c = some ⟨oc2, od2, .fields vs, osl2⟩) (v : vs[11]? = some (.ref P)) (n : K.lookup P = none)
    (k : PySem.W.CodeHd h c P ∧ h.get? P = some (PySem.W.tabObj #[]) → K.lookup P = none → goal) : goal := by
  refine k (TT x e c P r ?_) n
  unfold PySem.W.tabIn
  rw [a]
  simp only [l, hc, lc, v]
theorem law_use {K : PySem.W.Frag} {mg : Str → Option Value} {x y : Str} {st : Stmt} {fa : Addr} {p : Str} {h : Heap} {f : Addr} {oc : Value} {od : Option Addr} {kV doc pm : Value} {an : Option Addr} {cdv ct : Value} {osl : Array (Option Value)} {goal : Prop} (X : K.In h) (G : h.Ns mainGlobals mg) (hfa : mg x = some (.ref fa)) (a : PySem.W.nsIn K mainGlobals x = some (some (.ref f)))
    (l : K.lookup f = some ⟨oc, od, .func (PySem.W.fnOf y y (defArgs st) (defBody st) (defScope st) .none kV doc pm an cdv ct), osl⟩)
    (bi : ∀ (kV doc pm : Value) (an : Option Addr) (cdv ct : Value) (s : Shared) (v : Value), BindsTo s (PySem.W.fnOf y y (defArgs st) (defBody st) (defScope st) .none kV doc pm an cdv ct) ⟨[v], []⟩ [(p, v)])
    (k : ∀ fd : FuncData, (∃ (oc : Value) (od : Option Addr) (osl : Array (Option Value)), K.lookup fa = some ⟨oc, od, .func fd, osl⟩) → (∀ (s : Shared) (u : Value), BindsTo s fd ⟨[u], []⟩ [(p, u)]) → goal) : goal := by
  obtain ⟨fd, h1, h2⟩ := law_fd X G hfa a l bi
  exact k fd h1 h2
abbrev IsL (K : PySem.W.Frag) (cv : Value) (l : List (Str × Bool)) : Prop := ∀ p ∈ l, ∃ D : Addr, PySem.W.nsIn K mainGlobals p.1 = some (some (.ref D)) ∧ PySem.W.kitOne K (.ref D) cv = some p.2 ∧ ExcC K D
theorem is_nil {K : PySem.W.Frag} {cv : Value} : IsL K cv [] := fun _ h => nomatch h
theorem is_cons {K : PySem.W.Frag} {cv : Value} {x : Str} {b : Bool} {l : List (Str × Bool)} {D : Addr} (a : PySem.W.nsIn K mainGlobals x = some (some (.ref D))) (k : PySem.W.kitOne K (.ref D) cv = some b)
    (e1 : PySem.W.findIn K (.ref D) "__getattribute__" = some (some (.builtin "BaseException.__getattribute__"))) (e2 : PySem.W.findIn K (.ref D) "__getattr__" = some none) (e3 : PySem.W.subIn K (.ref D) (.type "BaseException") = some true) (e4 : PySem.W.hasDictIn K D = true)
    (e5 : PySem.W.findIn K (.ref D) "__class__" = some (some (.builtin "object.__class__"))) (e6 : PySem.W.specialIn K (.builtin "object.__class__") "__get__" = some (some (.builtin "getset_descriptor.__get__"))) (e7 : PySem.W.takesIn K (.builtin "object.__class__") = some true)
    (e8 : PySem.W.mroIn K D (.type "object") = some true) (r : IsL K cv l) : IsL K cv ((x, b) :: l) := fun p hp => by
  rcases List.mem_cons.mp hp with rfl | hp
  · exact ⟨D, a, k, e1, e2, e3, e4, e5, e6, e7, e8⟩
  · exact r p hp
abbrev TrL (K : PySem.W.Frag) (C : Addr) (l : List (Str × Bool)) : Prop := ∀ p ∈ l, ∃ D : Addr, PySem.W.nsIn K mainGlobals p.1 = some (some (.ref D)) ∧ PySem.W.exmOne K (.ref D) (.ref C) = some p.2
theorem tr_nil {K : PySem.W.Frag} {C : Addr} : TrL K C [] := fun _ h => nomatch h
theorem tr_cons {K : PySem.W.Frag} {C : Addr} {x : Str} {b : Bool} {l : List (Str × Bool)} {D : Addr} (a : PySem.W.nsIn K mainGlobals x = some (some (.ref D))) (k : PySem.W.exmOne K (.ref D) (.ref C) = some b) (r : TrL K C l) : TrL K C ((x, b) :: l) := fun p hp => by
  rcases List.mem_cons.mp hp with rfl | hp
  · exact ⟨D, a, k⟩
  · exact r p hp
theorem de_gloD {X : Cx} {W : WX} {x y : Str} {st : Stmt} {pos : Pos} (D : DefF X.K X.mg x y st) (hg : Gl X x) (hd : (x == ("__debug__" : Str)) = false := by decide) : DE τ X W (.Name x pos) (eGlo x) := by
  obtain ⟨f, oc, od, kV, doc, pm, an, cdv, ct, osl, h1, _⟩ := D.ex
  exact de_glo (v := .ref f) hg h1 rfl hd
abbrev TblL (τ : Tb) (P : Program) (w : World) (K : PySem.W.Frag) (mg : Str → Option Value) (base : Heap) (j : Nat) (l : List (Str × (Nat × Fn))) : Prop := ∀ p ∈ l, ∃ k, k ≤ j ∧ DefOk τ P w K mg base k p.2.1 p.1 p.2.2
section
variable {P : Program} {w : World} {K : PySem.W.Frag} {mg : Str → Option Value} {base : Heap} {j : Nat}
theorem tbl_nil : TblL τ P w K mg base j [] := fun _ h => nomatch h
theorem tbl_cons {k n : Nat} {x : Str} {g : Fn} {l : List (Str × (Nat × Fn))} (ok : DefOk τ P w K mg base k n x g) (h : k ≤ j) (r : TblL τ P w K mg base j l) : TblL τ P w K mg base j ((x, (n, g)) :: l) := fun p hp => by
  rcases List.mem_cons.mp hp with rfl | hp
  · exact ⟨k, h, ok⟩
  · exact r p hp
theorem tbl_use {l : List (Str × (Nat × Fn))} (h : TblL τ P w K mg base j l) : ∀ x n g, l.lookup x = some (n, g) → ∃ k, k ≤ j ∧ DefOk τ P w K mg base k n x g := fun x n g e => h (x, (n, g)) (PySem.mem_of_lookup e)
end
theorem lcL_filt {tg : Tg} {t : Tv} {f : Ev} {ρ : Env} (p : D → Bool) {S : Store} : ∀ (xs acc : List D), (∀ x ∈ xs, ∃ ρ1, tg (.d x) ρ = some ρ1 ∧ t ρ1 S = .ok (p x) S ∧ f ρ1 S = .ok (.d x) S) → acc.length + xs.length ≤ 16000000 → lcL tg t f ρ xs acc S = .ok (acc ++ xs.filter p) S
  | [], acc, _, _ => by simp
  | x :: xs, acc, h, hl => by
    obtain ⟨ρ1, e1, e2, e3⟩ := h x (by simp)
    have hl' : acc.length + (xs.length + 1) ≤ 16000000 := hl
    have hs : acc.length < sizeLine := Nat.lt_of_lt_of_le (by omega) (show 16000000 ≤ sizeLine by decide)
    unfold lcL
    cases q : p x with
    | true =>
      have ih := lcL_filt p (S := S) xs (acc ++ [x]) (fun y hy => h y (by simp [hy])) (by simp; omega)
      rw [q] at e2
      simp only [e1, e2, noX_ok, bind_ok, if_true, e3, fr_d, hs]
      rw [ih]
      simp [q]
    | false =>
      have ih := lcL_filt p (S := S) xs acc (fun y hy => h y (by simp [hy])) (by omega)
      rw [q] at e2
      simp only [e1, e2, noX_ok, bind_ok, Bool.false_eq_true, if_false]
      rw [ih]
      simp [q]
def headD : List D → D
  | [] => .none
  | x :: _ => x
theorem head_find (p : D → Bool) : ∀ xs : List D, headD (xs.filter p) = (xs.find? p).getD .none
  | [] => rfl
  | x :: xs => by
    cases h : p x with
    | true => simp [h, headD]
    | false => simp [h, head_find p xs]
theorem head_mem {xs : List D} : headD xs = .none ∨ headD xs ∈ xs := by
  cases xs with
  | nil => exact .inl rfl
  | cons x xs => exact .inr (by simp [headD])
theorem forL_find {i : Nat} {sb : Sv} (p : D → Bool) {S : Store} {I : Env → Prop} (hi : ∀ ρ x, I ρ → I (ρ.set i (some (.d x)))) (hlen : ∀ ρ, I ρ → i < ρ.length) :
    ∀ (xs : List D), (∀ ρ x, x ∈ xs → I ρ → ρ[i]? = some (some (.d x)) → sb ρ S = if p x = true then .ret (.d x) S else .nx ρ S) → ∀ (ρ : Env), I ρ → (∀ x, xs.find? p = some x → forL (gN i) sb xs ρ S = .ret (.d x) S) ∧ (xs.find? p = none → ∃ ρ', I ρ' ∧ forL (gN i) sb xs ρ S = .nx ρ' S)
  | [], _, ρ, h => ⟨fun x e => by simp at e, fun _ => ⟨ρ, h, rfl⟩⟩
  | x :: xs, step, ρ, h => by
    have s := step (ρ.set i (some (.d x))) x (by simp) (hi ρ x h) (by simp [hlen ρ h])
    have ih := forL_find p hi hlen xs (fun ρ y hy => step ρ y (by simp [hy])) (ρ.set i (some (.d x))) (hi ρ x h)
    rw [ap_forL1]
    simp only [ap_gN]
    rw [s]
    cases q : p x with
    | true =>
      simp only [if_true]
      exact ⟨fun y e => by rw [List.find?_cons_of_pos q] at e; cases e; rfl, fun e => by rw [List.find?_cons_of_pos q] at e; cases e⟩
    | false =>
      simp only [Bool.false_eq_true, if_false]
      rw [List.find?_cons_of_neg (by simp [q])]
      exact ih
theorem rangeD_mem {lo hi : Int} {d : D} (h : d ∈ rangeD lo hi) : ∃ i : Int, d = .int i ∧ lo ≤ i ∧ i < hi := by
  obtain ⟨k, hk, rfl⟩ := List.mem_map.mp h
  rw [List.mem_range] at hk
  exact ⟨lo + (k : Nat), rfl, by omega, by omega⟩
theorem tup_one (l : Addr) (items : Array Value) (n : Nat) (dd : Option Addr) (sl : Array (Option Value)) (x : Int) (u : Tok) (c0 : (decide (x < -(2 ^ 63)) || decide (x ≥ 2 ^ 63)) = false) (c1 : (items.isEmpty || x == 1) = true) :
    Meets (Builtin.«tuple.__mul__» ⟨[.ref l, .int x u], []⟩) (fun _ R s => s.heap.get? l = some { cls := .type "tuple", dict := dd, data := .seq items n, slots := sl } ∧ R (.ok (.ret (Value.ref l))) s) :=
  .of_wp fun prog w A R s h => by
    obtain ⟨hp, g, d, tk, os⟩ := s
    obtain ⟨hl, h⟩ := h
    have f1 := AutoSeq1.idx_int
    wp_walk using wpAny_loadPart' hl
    repeat (first
      | (refine wpAny_ite_false (decide_eq_false (by rw [c0]; exact Bool.false_ne_true)) ?_; wp_walk using wpAny_loadPart' hl)
      | (refine wpAny_ite_true (decide_eq_true c1) ?_; wp_walk using wpAny_loadPart' hl))
    exact ⟨_, rfl, h⟩
theorem tup_zero (l : Addr) (items : Array Value) (n : Nat) (dd : Option Addr) (sl : Array (Option Value)) (x : Int) (u : Tok) (c0 : (decide (x < -(2 ^ 63)) || decide (x ≥ 2 ^ 63)) = false) (c1 : (items.isEmpty || x == 1) = false) (c2 : (decide (x ≤ 0) || items.isEmpty) = true) :
    Meets (Builtin.«tuple.__mul__» ⟨[.ref l, .int x u], []⟩) (fun _ R s => s.heap.get? l = some { cls := .type "tuple", dict := dd, data := .seq items n, slots := sl } ∧
      R (.ok (.ret (Value.ref s.heap.objs.size))) { s with heap := s.heap.push { cls := Value.type "tuple", data := Data.seq #[] }, toks := s.toks }) :=
  .of_wp fun prog w A R s h => by
    obtain ⟨hp, g, d, tk, os⟩ := s
    obtain ⟨hl, h⟩ := h
    have f1 := AutoSeq1.idx_int
    wp_walk using wpAny_loadPart' hl
    repeat (first
      | (refine wpAny_ite_false (decide_eq_false (by rw [c0]; exact Bool.false_ne_true)) ?_; wp_walk using wpAny_loadPart' hl)
      | (refine wpAny_ite_false (decide_eq_false (by rw [c1]; exact Bool.false_ne_true)) ?_; wp_walk using wpAny_loadPart' hl)
      | (refine wpAny_ite_true (decide_eq_true c2) ?_; wp_walk using wpAny_loadPart' hl))
    exact ⟨_, rfl, h⟩
def rRepS (K : PySem.W.Frag) : R2 := fun x y H Q => ∃ l k xs, x = .ref l ∧ y = .int k ∧ SqT K H l xs ∧ xs ≠ [] ∧ ((k = 1 ∧ Q (.ref l) H) ∨ (k = 0 ∧ ∀ p, H p = none → Q (.ref p) (upd H p (.tup []))))
theorem op_repS {X : Cx} : OpR X (binaryOp .Mult) (rRepS X.K) := by
  intro pins s σ H x y v u Q I rx ry h
  obtain ⟨l, k, xs, rfl, rfl, hT, hne, q⟩ := h
  cases rx
  obtain ⟨t, rfl⟩ := ry
  obtain ⟨its, r, ⟨⟨cls, dd, data, sl⟩, ho, hc, n, hd⟩, hs⟩ := I.tuple hT
  simp only at hc hd
  subst hc hd
  have hle : its.length = xs.length := r.length.symm
  have full : its.toArray.isEmpty = false := by
    cases its with
    | nil => exact absurd (List.eq_nil_of_length_eq_zero hle.symm) hne
    | cons a b => rfl
  rcases q with ⟨rfl, q⟩ | ⟨rfl, q⟩
  · refine wpAny_binaryOp_repeat_ref (T := "tuple") (U := "int") (by decide) ⟨_, ho, rfl⟩ (fun s' => typeIs_int s' 1 t) noFill_tuple_mul F.fills_int_mul F.slot_int_rmul repeat_tuple F.slot_int_index.lookup
      (call_meets F.slot_int_rmul (typeIs_int s 1 t) F.entry_int_rmul (F.args_int_rmul_2 _ _) (int_rmul_tuple 1 t l its.toArray n dd sl)
        ⟨ho, rfl, ⟨_, ho, rfl⟩, call_meets F.slot_tuple_mul ⟨_, ho, rfl⟩ F.entry_tuple_mul (F.args_tuple_mul_2 _ _) (tup_one l its.toArray n dd sl 1 t (by decide) (by rw [full]; rfl)) ⟨ho, ?_⟩⟩)
    exact ⟨.ref l, H, I, rfl, q⟩
  · refine wpAny_binaryOp_repeat_ref (T := "tuple") (U := "int") (by decide) ⟨_, ho, rfl⟩ (fun s' => typeIs_int s' 0 t) noFill_tuple_mul F.fills_int_mul F.slot_int_rmul repeat_tuple F.slot_int_index.lookup
      (call_meets F.slot_int_rmul (typeIs_int s 0 t) F.entry_int_rmul (F.args_int_rmul_2 _ _) (int_rmul_tuple 0 t l its.toArray n dd sl)
        ⟨ho, rfl, ⟨_, ho, rfl⟩, call_meets F.slot_tuple_mul ⟨_, ho, rfl⟩ F.entry_tuple_mul (F.args_tuple_mul_2 _ _) (tup_zero l its.toArray n dd sl 0 t (by decide) (by rw [full]; rfl) (by rfl)) ⟨ho, ?_⟩⟩)
    refine ⟨.ref s.heap.objs.size, _, I.laid (t' := s.toks) (o := .tup []) (fun b ob q => Heap.get?_push_of_some _ q) (Nat.le_refl _) ?_, rfl, q _ (I.hok.fresh (Nat.le_refl _))⟩
    exact ⟨Nat.zero_le _, [], .nil, IsTup.new _ _⟩
def oMulT (m : Bool) (a b : Vl) (S : Store) : Res Vl := match view S a, view S b with
  | some (.tuple xs), some (.int k) => if xs ≠ [] ∧ k = 1 then .ok (.d (.tuple xs)) S else if xs ≠ [] ∧ k = 0 then .ok (.d (.tuple [])) S else oMul m a b S
  | _, _ => oMul m a b S
theorem op_mulT {X : Cx} : OpR X (binaryOp .Mult) (fun x y H Q => (rMulX x y H Q ∨ rRep x y H Q ∨ rRepT X.K x y H Q) ∨ rRepS X.K x y H Q) := fun pins s σ H x y v u Q I rx ry h => h.elim (op_mulX' pins s σ H x y v u Q I rx ry) (op_repS pins s σ H x y v u Q I rx ry)
theorem ok_mulT {K : PySem.W.Frag} {mg : Str → Option Value} {m : Bool} : OpOk τ K mg (fun x y H Q => (rMulX x y H Q ∨ rRep x y H Q ∨ rRepT K x y H Q) ∨ rRepS K x y H Q) (oMulT m) := by
  intro φ F H S x y v u Q W g r1 r2 p
  unfold oMulT at p
  split at p
  · rename_i xs k e1 e2
    have o1 := ob_of g r1 e1
    have o2 := ob_of g r2 e2
    obtain ⟨a, ys, rfl, h1, h2⟩ := o1
    have o2 : y = .int k := o2
    split at p
    · rename_i c
      refine .inr ⟨a, k, ys, rfl, o2, h1.sq, fun z => c.1 (by have := h2.len; rw [z] at this; exact List.eq_nil_of_length_eq_zero this.symm), .inl ⟨c.2, Post.ok g p (.tup h1 h2)⟩⟩
    · split at p
      · rename_i c
        exact .inr ⟨a, k, ys, rfl, o2, h1.sq, fun z => c.1 (by have := h2.len; rw [z] at this; exact List.eq_nil_of_length_eq_zero this.symm), .inr ⟨c.2, Post.newT g .nil p⟩⟩
      · exact .inl (ok_mul g r1 r2 p)
  · exact .inl (ok_mul g r1 r2 p)
open Classical in
noncomputable def lcLM (k : Nat) (ds0 : List D) (g : Tg) (t : Tv) (e : Ev) (ρ : Env) : List D → List D → Store → Res (List D)
  | [], acc, S => if S[k]? = some (.lst ds0) then .ok acc S else .bad
  | x :: xs, acc, S => if S[k]? = some (.lst ds0) then match g (.d x) ρ with
    | none => .bad
    | some ρ1 => (noX (t ρ1 S)).bind fun c S1 => if c = true then (noX (e ρ1 S1)).bind fun v S2 => (fr v S2).bind fun d S3 => if acc.length < sizeLine then lcLM k ds0 g t e ρ xs (acc ++ [d]) S3 else .bad
      else lcLM k ds0 g t e ρ xs acc S1
    else .bad
noncomputable def eLcM (m : Bool) (it : List D → List D) (f : Ev) (g : Tg) (t : Tv) (e : Ev) (vs : List Nat) : Ev := fun ρ S => (f ρ S).bind fun v S1 => match v with
  | .loc k => match S1[k]? with
    | some (.lst ds) => (lcLM k ds g t e (wipeE ρ vs) (it ds) [] S1).bind fun acc S2 => mkL m acc S2
    | _ => .bad
  | _ => .bad
@[simp] theorem ap_eLcM {m : Bool} {it : List D → List D} {f : Ev} {g : Tg} {t : Tv} {e : Ev} {vs : List Nat} {ρ : Env} {S : Store} : eLcM m it f g t e vs ρ S = (f ρ S).bind fun v S1 => match v with
  | .loc k => match S1[k]? with
    | some (.lst ds) => (lcLM k ds g t e (wipeE ρ vs) (it ds) [] S1).bind fun acc S2 => mkL m acc S2
    | _ => .bad
  | _ => .bad := rfl
structure Ml (K : PySem.W.Frag) (J : It) (a : Addr) (it : List D → List D) : Prop where
  len : ∀ ds, (it ds).length = ds.length
  goes : ∀ i H xs, H a = some (.lst xs) → i < xs.length → J.go i H
  stops : ∀ H xs, H a = some (.lst xs) → J.stop xs.length H
  yields : ∀ i F H xs ds v H'', H a = some (.lst xs) → FzAll K F H xs ds → i < ds.length → J.yld i H v H'' → ∃ d, (it ds)[i]? = some d ∧ YI K F H H v H'' d
theorem ml_list {K : PySem.W.Frag} {a : Addr} : Ml K (Itl K a) a fun ds => ds := by
  refine ⟨fun ds => rfl, fun i H xs h hi => ⟨xs, xs[i], .inl (.inl h), by simp [hi]⟩, fun H xs h => ⟨xs, .inl (.inl h), Nat.le_refl _⟩, fun i F H xs ds v H'' h fz hi y => ?_⟩
  obtain ⟨v', hv, fv⟩ := fz.get (List.getElem?_eq_getElem hi)
  have e := y.2 xs (.inl (.inl h))
  rw [hv] at e
  cases e
  exact ⟨ds[i], List.getElem?_eq_getElem hi, .inl ⟨y.1, fv⟩⟩
theorem ml_enum {K : PySem.W.Frag} {a : Addr} : Ml K (Ite K a) a enumD := by
  refine ⟨fun ds => enumD_len, fun i H xs h hi => ⟨xs, xs[i], .inl (.inl h), by simp [hi]⟩, fun H xs h => ⟨xs, .inl (.inl h), Nat.le_refl _⟩, fun i F H xs ds v H'' h fz hi y => ?_⟩
  obtain ⟨v', hv, fv⟩ := fz.get (List.getElem?_eq_getElem hi)
  obtain ⟨T, x, e1, e2, e3, e4⟩ := y
  have e := e4 xs (.inl (.inl h))
  rw [hv] at e
  cases e
  exact ⟨_, enumD_get hi, .inr ⟨T, _, _, e1, e2, e3, rfl, .cons (.int _) (.cons fv .nil)⟩⟩
section
variable {X : Cx} {W : WX} {tg elt : Expr} {ifs : List Expr} {scope : Scope} {own : List (Str × Nat)} {pos : Pos} {f : Ev} {g : Tg} {ws : List Nat} {t : Tv} {e : Ev}
theorem lcm_core {m : Bool} {vs : List Nat} {k : Nat} {ds : List D} {it : List D → List D} (hw : ∀ i, i ∈ ws → i ∈ vs) {σ : L2.St} {ρ : Env} {Q : VK} {φ1 : Nat → Addr} {F1 : Addr → Prop} {H1 : Hp} {S1 : Store} {J : It} {Wx : XW} (gs : SG τ X.K φ1 F1 H1 S1) (sl1 : Slots X.K X.mg φ1 F1 H1 S1.length σ ρ) (hk : S1[k]? = some (.lst ds)) (ml : Ml X.K J (φ1 k) it)
    (p1 : Post τ X.K X.mg Wx S1.length φ1 F1 H1 Q ((lcLM k ds g t e (wipeE ρ vs) (it ds) [] S1).bind fun acc S2 => mkL m acc S2)) :
    ∀ D, H1 D = none → ∃ W : Nat → Nat → Hp → Prop, (∃ m, W 0 m (upd H1 D (.lst []))) ∧ ∀ i m H, W i m H →
  (J.stop i H ∧ Q (.ref D) H) ∨ (J.go i H ∧ ∃ Nx : Hp → Prop, (∀ H', Nx H' → ∃ m', m' < m ∧ W (i + 1) m' H') ∧ ∀ x H', J.yld i H x H' → RG τ X.K X.mg g ws x (wipe σ vs) H' fun σ2 H2 => wipe σ2 vs = wipe σ vs ∧ RT τ X.K X.mg W0 t σ2 H2 fun b H3 =>
    if b = true then RE τ X.K X.mg W0 e σ2 H3 fun y H4 => ∃ acc, H4 D = some (.lst acc) ∧ acc.length < sizeLine ∧ Nx (upd H4 D (.lst (acc ++ [y]))) else Nx H3) := by
  intro Dd hD
  have dom1 := gs.dom
  have nF1 : ¬ F1 Dd := fun h => dom1 Dd h hD
  have hk1 : k < S1.length := (List.getElem?_eq_some_iff.mp hk).1
  have live : ∀ {i : Nat} {H2 : Hp} {φ2 : Nat → Addr} {F2 : Addr → Prop} {S2 : Store} {acc : List D}, Now τ X.K S1.length φ1 F1 H1 φ2 F2 H2 S2 → Post τ X.K X.mg Wx S1.length φ1 F1 H1 Q ((lcLM k ds g t e (wipeE ρ vs) ((it ds).drop i) acc S2).bind fun acc S2 => mkL m acc S2) → S2[k]? = some (.lst ds) ∧ ∃ xs, H2 (φ1 k) = some (.lst xs) ∧ FzAll X.K F2 H2 xs ds := by
    intro i H2 φ2 F2 S2 acc nw p
    have h : S2[k]? = some (.lst ds) := by
      cases q : (it ds).drop i with
      | nil =>
        rw [q] at p
        unfold lcLM at p
        by_cases h : S2[k]? = some (.lst ds)
        · exact h
        · rw [if_neg h] at p; exact p.elim
      | cons y ys =>
        rw [q] at p
        unfold lcLM at p
        by_cases h : S2[k]? = some (.lst ds)
        · exact h
        · rw [if_neg h] at p; exact p.elim
    obtain ⟨_, xs, h2, h3⟩ := nw.sg.obj k _ h
    rw [nw.ext.loc k hk1] at h2
    exact ⟨h, xs, h2, h3⟩
  refine lc_it (n := ds.length) (G := fun H => ∃ xs, H (φ1 k) = some (.lst xs) ∧ xs.length = ds.length) (Y := fun i H x H' => J.yld i H x H') ⟨fun i H hi ⟨xs, h, hl⟩ => ml.goes i H xs h (by omega), fun H ⟨xs, h, hl⟩ => by rw [← hl]; exact ml.stops H xs h, fun _ _ _ _ _ _ y => y⟩
    (fun i H2 => ∃ φ2 F2 S2 xs acc, Now τ X.K S1.length φ1 F1 H1 φ2 F2 H2 S2 ∧ H2 Dd = some (.lst xs) ∧ ¬ F2 Dd ∧ (∀ i, i < S2.length → φ2 i ≠ Dd) ∧ FzAll X.K F2 H2 xs acc ∧
      Post τ X.K X.mg Wx S1.length φ1 F1 H1 Q ((lcLM k ds g t e (wipeE ρ vs) ((it ds).drop i) acc S2).bind fun acc S2 => mkL m acc S2))
    ⟨φ1, F1, S1, [], [], (Now.refl gs).other hD (.inl hD) dom1 nF1 fun i hi => gs.neAt hi hD, upd_same, nF1, fun i hi => gs.neAt hi hD, .nil, p1⟩ (fun i H2 _ ⟨φ2, F2, S2, xs, acc, n, _, _, _, _, p2⟩ => by
      obtain ⟨_, ys, h2, h3⟩ := live n p2
      exact ⟨ys, h2, h3.len⟩) ?_ ?_
  · intro i v H2 H3 hlt ⟨φ2, F2, S2, xs, acc, nw2, d2, f2, s2, fz2, p2⟩ yl
    obtain ⟨hS, ys, hy, fy⟩ := live nw2 p2
    obtain ⟨d, hd, yi⟩ := ml.yields i F2 H2 ys ds v H3 hy fy hlt yl
    have hdr : (it ds).drop i = d :: (it ds).drop (i + 1) := by
      obtain ⟨h1, h2⟩ := List.getElem?_eq_some_iff.mp hd
      rw [← h2, List.drop_eq_getElem_cons h1]
    rw [hdr] at p2
    obtain ⟨F3, nw3, fz3⟩ : ∃ F3, Now τ X.K S2.length φ2 F2 H2 φ2 F3 H3 S2 ∧ Fz X.K F3 H3 v d := by
      rcases yi with ⟨rfl, fz⟩ | ⟨T, us, es, rfl, hT, rfl, rfl, fz⟩
      · exact ⟨F2, .refl nw2.sg, fz⟩
      · have nw := nw2.sg.fresh (o := .tup us) hT
        exact ⟨_, nw, .tup (.inl ⟨.inr rfl, upd_same⟩) (fz.ext nw.ext.sub nw.ext.same)⟩
    have base3 := Now.trans gs nw2 nw3
    obtain ⟨d3, f3, s3⟩ := nw3.priv (by rw [d2]; simp) (by rw [d2]; simp) f2 s2
    have slw : Slots X.K X.mg φ2 F3 H3 S2.length (L2.wipe σ vs) (wipeE ρ vs) := ((sl1.now nw2).now nw3).wiped vs
    refine ⟨φ2, F3, wipeE ρ vs, S2, .d d, nw3.sg, slw, fz3, ?_⟩
    unfold lcLM at p2
    rw [if_pos hS] at p2
    cases q : g (.d d) (wipeE ρ vs) with
    | none => rw [q] at p2; exact p2.elim
    | some ρ3 =>
      simp only [q] at p2 ⊢
      have go : Post τ X.K X.mg Wx S1.length φ1 F1 H1 Q (((noX (t ρ3 S2)).bind fun c S1 => if c = true then (noX (e ρ3 S1)).bind fun v S2 => (fr v S2).bind fun d S3 => if acc.length < sizeLine then lcLM k ds g t e (wipeE ρ vs) ((it ds).drop (i + 1)) (acc ++ [d]) S3 else .bad
        else lcLM k ds g t e (wipeE ρ vs) ((it ds).drop (i + 1)) acc S1).bind fun acc S2 => mkL m acc S2) := p2
      refine fun σ3 sl3 n3 => ⟨wipe_same hw n3, φ2, F3, ρ3, S2, nw3.sg, sl3, ?_⟩
      cases et : t ρ3 S2 with
      | bad => rw [et] at go; exact go.elim
      | ex x S4 => rw [et] at go; exact go.elim
      | ok b S4 =>
        rw [et] at go
        simp only [noX_ok, bind_ok] at go
        intro φ4 F4 H4 nw4 b' eb
        have eb : b' = b := eb
        subst eb
        have base4 := Now.trans gs base3 nw4
        obtain ⟨d4, f4, s4⟩ := nw4.priv (by rw [d3, d2]; simp) (by rw [d3, d2]; simp) f3 s3
        have d4' : H4 Dd = some (.lst xs) := by rw [d4, d3, d2]
        have fz4 : FzAll X.K F4 H4 xs acc := (fz2.ext nw3.ext.sub nw3.ext.same).ext nw4.ext.sub nw4.ext.same
        cases b' with
        | false =>
          simp only [Bool.false_eq_true, if_false] at go ⊢
          exact ⟨φ4, F4, S4, xs, acc, base4, d4', f4, s4, fz4, go⟩
        | true =>
          simp only [if_true] at go ⊢
          refine ⟨φ4, F4, ρ3, S4, nw4.sg, sl3.now nw4, ?_⟩
          cases ee : e ρ3 S4 with
          | bad => rw [ee] at go; exact go.elim
          | ex x S5 => rw [ee] at go; exact go.elim
          | ok v5 S5 =>
            rw [ee] at go
            simp only [noX_ok, bind_ok] at go
            intro φ5 F5 H5 nw5 y ry
            have hne : fr v5 S5 ≠ .bad := fun e => by rw [e] at go; exact go
            obtain ⟨φ6, F6, S6, d6, nw6, fz6, e6⟩ := fr_ok nw5.sg ry hne
            rw [e6] at go
            simp only [noX_ok, bind_ok] at go
            by_cases hl : acc.length < sizeLine
            · rw [if_pos hl] at go
              have nw56 := Now.trans nw4.sg nw5 nw6
              have base6 := Now.trans gs base4 nw56
              obtain ⟨d7, f7, s7⟩ := nw56.priv (by rw [d4']; simp) (by rw [d4']; simp) f4 s4
              rw [d4'] at d7
              have fz7 : FzAll X.K F6 H5 xs acc := fz4.ext nw56.ext.sub nw56.ext.same
              refine ⟨xs, d7, by rw [fz7.len]; exact hl, φ6, F6, S6, xs ++ [y], acc ++ [d6], base6.other hD (.inr ⟨_, d7, plain_lst⟩) dom1 f7 s7, upd_same, f7, s7, ?_, go⟩
              exact (fz7.append (.cons fz6 .nil)).ext (fun _ h => h) fun a h => upd_ne fun e => f7 (by rw [← e]; exact h)
            · rw [if_neg hl] at go; exact go.elim
  · intro H2 ⟨φ2, F2, S2, xs, acc, nw2, d2, f2, s2, fz2, p2⟩
    obtain ⟨hS, _⟩ := live nw2 p2
    rw [show (it ds).drop ds.length = [] by rw [← ml.len ds, List.drop_length]] at p2
    unfold lcLM at p2
    rw [if_pos hS] at p2
    have p2 : Post τ X.K X.mg Wx S1.length φ1 F1 H1 Q (mkL m acc S2) := p2
    cases m with
    | true => exact p2 _ _ _ (nw2.keep hD s2 ⟨f2, xs, d2, fz2⟩) _ ⟨by simp, by simp⟩
    | false => exact p2 _ _ _ (nw2.take hD (by rw [d2]; simp) (by rw [d2]; simp) s2) _ (.lst (.inr rfl) d2 (fz2.ext (fun _ h => .inl h) fun _ _ => rfl))
theorem PostG.loc {m : Bool} {it : List D → List D} {vs : List Nat} {ρ : Env} {Q : VK} {Wx : XW} {n : Nat} {φ : Nat → Addr} {F : Addr → Prop} {H : Hp} {v : Vl} {S1 : Store} (p : Post τ X.K X.mg Wx n φ F H Q (match v with
    | .loc k => match S1[k]? with
      | some (.lst ds) => (lcLM k ds g t e (wipeE ρ vs) (it ds) [] S1).bind fun acc S2 => mkL m acc S2
      | _ => .bad
    | _ => .bad)) : ∃ k ds, v = .loc k ∧ S1[k]? = some (.lst ds) ∧ Post τ X.K X.mg Wx n φ F H Q ((lcLM k ds g t e (wipeE ρ vs) (it ds) [] S1).bind fun acc S2 => mkL m acc S2) := by
  cases v with
  | loc k =>
    cases h : S1[k]? with
    | none => simp only [h] at p; exact p.elim
    | some o =>
      cases o with
      | lst ds => simp only [h] at p; exact ⟨k, ds, rfl, h, p⟩
      | _ => simp only [h] at p; exact p.elim
  | _ => exact p.elim
theorem lcm_readsL {m : Bool} {vs : List Nat} (hw : ∀ i, i ∈ ws → i ∈ vs) {σ : L2.St} {H : Hp} {Q : VK} (h : RE τ X.K X.mg W (eLcM m (fun ds => ds) f g t e vs) σ H Q) :
    tLc (jSeq X.K (RE τ X.K X.mg W f)) (RG τ X.K X.mg g ws) (RT τ X.K X.mg W0 t) (RE τ X.K X.mg W0 e) vs σ H Q := by
  obtain ⟨φ, F, ρ, S, gs, sl, p⟩ := h
  refine ⟨φ, F, ρ, S, gs, sl, PostG.bind gs p fun φ1 F1 H1 S1 v x nw1 r1 p1 => ?_⟩
  obtain ⟨k, ds, rfl, hk, p1⟩ := PostG.loc p1
  obtain ⟨_, rfl⟩ := r1
  obtain ⟨_, xs, hx, _⟩ := nw1.sg.obj k _ hk
  exact ⟨_, rfl, .inl ⟨⟨xs, .inl (.inl hx)⟩, lcm_core hw nw1.sg (sl.now nw1) hk ml_list p1⟩⟩
theorem de_lcM {l : Expr} {k : Nat} (m : Bool) (cc : Cc X W k) (hi : DE τ X W l f) (ok : BlkOk X.N X.env.scope scope own) (hg : ∀ (s : Shared) (H : Hp) (C : Addr) (cl : List (Str × Addr)) (fp : List Addr), DG τ (X.blk s H scope (compEnvC scope cl C X.env) fp) tg g ws)
    (ht : ∀ (s : Shared) (H : Hp) (C : Addr) (cl : List (Str × Addr)) (fp : List Addr), DTs τ (X.blk s H scope (compEnvC scope cl C X.env) fp) W0 ifs t) (he : ∀ (s : Shared) (H : Hp) (C : Addr) (cl : List (Str × Addr)) (fp : List Addr), DE τ (X.blk s H scope (compEnvC scope cl C X.env) fp) W0 elt e)
    (hw : ∀ i, i ∈ ws → i ∈ own.map (·.2) := by decide) (hs : ∀ x, foldedSetIterable l X.env x = pure x := by intro _; rfl) : DE τ X W (.ListComp elt [⟨tg, l, ifs, 0⟩] scope pos) (eLcM m (fun ds => ds) f g t e (own.map (·.2))) :=
  ⟨PE.mono (pe_lc cc.calm cc.nd (pi_seq hi.r) ok (fun s H C cl fp => (hg s H C cl fp).r) (fun s H C cl fp => (ht s H C cl fp).r) (fun s H C cl fp => (he s H C cl fp).r) hs) fun σ H Q h => lcm_readsL hw h⟩
theorem lcm_readsE {m : Bool} {vs : List Nat} (hw : ∀ i, i ∈ ws → i ∈ vs) {σ : L2.St} {H : Hp} {Q : VK} (h : RE τ X.K X.mg W (eLcM m enumD f g t e vs) σ H Q) :
    tLc (jEn X.K (RA τ X.K X.mg W (aCons f aNil))) (RG τ X.K X.mg g ws) (RT τ X.K X.mg W0 t) (RE τ X.K X.mg W0 e) vs σ H Q := by
  obtain ⟨φ, F, ρ, S, gs, sl, p⟩ := h
  refine ⟨φ, F, ρ, S, gs, sl, ?_⟩
  unfold aCons aNil
  unfold eLcM at p
  have q2 : Post τ X.K X.mg (fun c od H' => W c od σ H') S.length φ F H Q (((f ρ S).bind fun v S1 => Res.ok [v] S1).bind fun us S1 => match us with
    | [v] => match v with
      | .loc k => match S1[k]? with
        | some (.lst ds) => (lcLM k ds g t e (wipeE ρ vs) (enumD ds) [] S1).bind fun acc S2 => mkL m acc S2
        | _ => .bad
      | _ => .bad
    | _ => .bad) := by
    cases e : f ρ S <;> (rw [e] at p; exact p)
  refine PostG.bind gs q2 fun φ1 F1 H1 S1 us xs nw1 r1 p1 => ?_
  cases us with
  | nil => exact p1.elim
  | cons v us =>
    cases us with
    | cons _ _ => exact p1.elim
    | nil =>
      obtain ⟨x, rfl, rx⟩ := reps1 r1
      obtain ⟨k, ds, rfl, hk, p1⟩ := PostG.loc p1
      obtain ⟨_, rfl⟩ := rx
      obtain ⟨_, ys, hx, _⟩ := nw1.sg.obj k _ hk
      exact ⟨_, rfl, .inl ⟨⟨ys, .inl (.inl hx)⟩, lcm_core hw nw1.sg (sl.now nw1) hk ml_enum p1⟩⟩
theorem de_lcE {c : Expr} {p cpos tpos : Pos} {elts : List Expr} {kk : Nat} {k : Nat} (m : Bool) (cc : Cc X W k) (hgl : Gl X "enumerate") (hm : X.mg "enumerate" = none) (hi : DA τ X W [c] (aCons f aNil)) (ok : BlkOk X.N X.env.scope scope own) (hg : ∀ (s : Shared) (H : Hp) (C : Addr) (cl : List (Str × Addr)) (fp : List Addr), DG τ (X.blk s H scope (compEnvC scope cl C X.env) fp) (.Tuple elts kk tpos) g ws)
    (ht : ∀ (s : Shared) (H : Hp) (C : Addr) (cl : List (Str × Addr)) (fp : List Addr), DTs τ (X.blk s H scope (compEnvC scope cl C X.env) fp) W0 ifs t) (he : ∀ (s : Shared) (H : Hp) (C : Addr) (cl : List (Str × Addr)) (fp : List Addr), DE τ (X.blk s H scope (compEnvC scope cl C X.env) fp) W0 elt e)
    (hw : ∀ i, i ∈ ws → i ∈ own.map (·.2) := by decide) (hst : starEach [c] X.env = [(false, eval c X.env)] := by rfl) (hs : ∀ x, foldedSetIterable (.Call (.Name "enumerate" p) [c] [] cpos) X.env x = pure x := by intro _; rfl) : DE τ X W (.ListComp elt [⟨.Tuple elts kk tpos, .Call (.Name "enumerate" p) [c] [] cpos, ifs, 0⟩] scope pos) (eLcM m enumD f g t e (own.map (·.2))) :=
  ⟨PE.mono (pe_lc cc.calm cc.nd (pi_enA hgl hm hi.r hst) ok (fun s H C cl fp => (hg s H C cl fp).r) (fun s H C cl fp => (ht s H C cl fp).r) (fun s H C cl fp => (he s H C cl fp).r) hs) fun σ H Q h => lcm_readsE hw h⟩
end
def IterK (k : Bool) (h : Heap) (it a : Addr) (i : Nat) : Prop := if k = true then h.IsListIter it a i else h.IsTupleIter it a i
def SeqK (k : Bool) (h : Heap) (a : Addr) (xs : Array Value) : Prop := if k = true then h.IsList a xs else h.IsTuple a xs
def SqK (K : PySem.W.Frag) (k : Bool) (H : Hp) (a : Addr) (xs : List V) : Prop := if k = true then SqL K H a xs else SqT K H a xs
theorem IterK.obj {k : Bool} {h : Heap} {it a : Addr} {i : Nat} (q : IterK k h it a i) : ∃ o, h.get? it = some o ∧ ∀ v, o.data ≠ .cell v := by
  cases k with
  | true => obtain ⟨o, e, _, d⟩ := (q : h.IsListIter it a i); exact ⟨o, e, fun v q => by rw [d] at q; cases q⟩
  | false => obtain ⟨o, e, _, d⟩ := (q : h.IsTupleIter it a i); exact ⟨o, e, fun v q => by rw [d] at q; cases q⟩
theorem IterK.at {k : Bool} {h h' : Heap} {it a : Addr} {i : Nat} (q : IterK k h it a i) (f : ∀ o, h.get? it = some o → h'.get? it = some o) : IterK k h' it a i := by
  cases k with
  | true => exact (Heap.IsListIter.at (h := h) q f : h'.IsListIter it a i)
  | false => exact (Heap.IsTupleIter.at (h := h) q f : h'.IsTupleIter it a i)
theorem drawsK {prog : Program} {w : World} {A : Around} (k : Bool) (hh : A.handled = none) (it l : Addr) (hne : l ≠ it) (items : Array Value) :
    Draws prog w A it [it, l] items.size (fun i v => items[i]? = some v) (fun i h => IterK k h it l i ∧ SeqK k h l items) := by
  cases k with
  | true => exact Draws.list hh it l hne items
  | false => exact Draws.tuple hh it l hne items
theorem Inv.sqK {X : Cx} {pins : List (Addr × Obj)} {σ : L2.St} {H : Hp} {s : Shared} (I : Inv X pins σ H s) {k : Bool} {a : Addr} {xs : List V} (q : SqK X.K k H a xs) : ∃ its : List Value, Vals xs its ∧ SeqK k s.heap a its.toArray := by
  cases k with
  | true => obtain ⟨its, rv, p, _⟩ := I.list (show SqL X.K H a xs from q); exact ⟨its, rv, p.isList⟩
  | false => obtain ⟨its, rv, p, _⟩ := I.tuple (show SqT X.K H a xs from q); exact ⟨its, rv, p⟩
theorem Inv.sqK_inj {X : Cx} {pins : List (Addr × Obj)} {σ : L2.St} {H : Hp} {s : Shared} (I : Inv X pins σ H s) {k : Bool} {a : Addr} {xs ys : List V} (q : SqK X.K k H a xs) (q2 : SqK X.K k H a ys) : xs = ys := by
  cases k with
  | true => exact I.list_inj (show SqL X.K H a xs from q) q2
  | false => exact I.tuple_inj (show SqT X.K H a xs from q) q2
def ItzM (K : PySem.W.Frag) (k1 k2 : Bool) (a b : Addr) : It :=
  ⟨fun i H => ∃ (xs ys : List V) (x y : V), SqK K k1 H a xs ∧ SqK K k2 H b ys ∧ xs[i]? = some x ∧ ys[i]? = some y,
    fun i H v H' => ∃ T x y, v = .ref T ∧ H T = none ∧ H' = upd H T (.tup [x, y]) ∧ (∀ xs, SqK K k1 H a xs → xs[i]? = some x) ∧ ∀ ys, SqK K k2 H b ys → ys[i]? = some y,
    fun i H => ∃ xs ys : List V, SqK K k1 H a xs ∧ SqK K k2 H b ys ∧ i ≤ xs.length ∧ i ≤ ys.length ∧ (i = xs.length ∨ i = ys.length)⟩
theorem zipSep {a b z TI TO i1 i2 : Addr} (D : ZipApart z TI TO i1 i2 a b) : ZipSep2 z TI TO i1 i2 [i1, a] [i2, b] := by
  refine ⟨D.TIz, D.TOz, D.TITO, D.TIi1, by simp, ?_, ?_, D.TIi2, by simp, ?_, ?_, ?_, ?_⟩
  · simp [Ne.symm D.i1z, Ne.symm D.l1z]
  · simp [D.TOi1, Ne.symm D.l1TO]
  · simp [Ne.symm D.i2z, Ne.symm D.l2z]
  · simp [D.TOi2, Ne.symm D.l2TO]
  · simp [D.i12, Ne.symm D.l2i1]
  · simp [Ne.symm D.i12, Ne.symm D.l1i2]
theorem turn_zipM {P : Program} {w : World} {K : PySem.W.Frag} {elts : List Expr} {kk : Nat} {tpos : Pos} {k1 k2 : Bool} {a b z TI TO i1 i2 : Addr} (D : ZipApart z TI TO i1 i2 a b) :
    Turn P w K (.Tuple elts kk tpos) (ItzM K k1 k2 a b) [z, TI, TO, i1, i2] z (fun i h => IsZip h z TI TO .none ∧ IsPair h TI (.ref i1) (.ref i2) ∧ (∃ x y, IsPair h TO x y) ∧ IterK k1 h i1 a i ∧ IterK k2 h i2 b i) where
  mem := by simp
  obj := fun i h st c hc => by
    obtain ⟨hz, hTI, ⟨x, y, hTO⟩, h1, h2⟩ := st
    have e' : c = z ∨ c = TI ∨ c = TO ∨ c = i1 ∨ c = i2 := by simpa using hc
    rcases e' with q | q | q | q | q
    · rw [q]; exact ⟨_, hz, fun v q => nomatch q⟩
    · rw [q]; exact ⟨_, hTI, fun v q => nomatch q⟩
    · rw [q]; exact ⟨_, hTO, fun v q => nomatch q⟩
    · rw [q]; exact h1.obj
    · rw [q]; exact h2.obj
  keep := fun i h h' st k => by
    obtain ⟨hz, hTI, ⟨x, y, hTO⟩, h1, h2⟩ := st
    exact ⟨k z (by simp) _ hz, k TI (by simp) _ hTI, ⟨x, y, k TO (by simp) _ hTO⟩, h1.at fun o q => k i1 (by simp) o q, h2.at fun o q => k i2 (by simp) o q⟩
  item := by
    intro X hP hw hK hc i pins s σ H E I hf st hg
    subst hP hw hK
    obtain ⟨hz, hTI, ⟨x0, y0, hTO⟩, h1, h2⟩ := st
    obtain ⟨xs, ys, x, y, hqx, hqy, hx, hy⟩ := hg
    obtain ⟨its, rv, p⟩ := Inv.sqK I hqx
    obtain ⟨its2, rv2, p2⟩ := Inv.sqK I hqy
    obtain ⟨u, hu, ru⟩ := rv.get hx
    obtain ⟨u2, hu2, ru2⟩ := rv2.get hy
    have hzl : z < s.heap.objs.size := Heap.lt_size hz
    have hh : X.A.in1.handled = none := I.ok.hd hc
    have lt1 : i < its.toArray.size := by have := (List.getElem?_eq_some_iff.mp hu).1; simpa using this
    have lt2 : i < its2.toArray.size := by have := (List.getElem?_eq_some_iff.mp hu2).1; simpa using this
    refine wpAny_pyNext_zipD2_item (zipSep D) (drawsK (A := X.A.in1) k1 hh i1 a D.l1i1 its.toArray) (drawsK (A := X.A.in1) k2 hh i2 b D.l2i2 its2.toArray) hz hTI hTO ⟨h1, p⟩ ⟨h2, p2⟩ lt1 lt2 fun v1 v2 h' tk y1 y2 z' TO' h1' h2' hT hsz hk => ?_
    have e1 : v1 = u := by rw [show its.toArray[i]? = some u by simpa using hu] at y1; cases y1; rfl
    have e2 : v2 = u2 := by rw [show its2.toArray[i]? = some u2 by simpa using hu2] at y2; cases y2; rfl
    subst e1 e2
    refine ⟨_, rfl, wpAny_letOwnedTupleGo_zip (s := { s with heap := h', toks := tk }) z' fun h'' z'' sb => ?_⟩
    have hT2 : h''.get? s.heap.objs.size = some { cls := .type "tuple", data := .seq #[v1, v2] } := (sb.2 _ (Nat.ne_of_gt hzl)).trans hT
    have new : ObjOk X.prog X.w (upd H s.heap.objs.size (.tup [x, y])) h'' s.heap.objs.size (.tup [x, y]) :=
      ⟨by show 2 ≤ sizeLine; decide, [v1, v2], .cons ru (.cons ru2 .nil), ⟨_, hT2, rfl, _, rfl⟩⟩
    have I1 : Inv X pins σ (upd H s.heap.objs.size (.tup [x, y])) { s with heap := h'', toks := tk } :=
      I.turnedNew (t' := tk) (ch := [z, TI, TO, i1, i2]) (fun c o hb q => (sb.2 c (fun q' => hb (by simp [q']))).trans (hk c o (fun q' => hb (by simp [q'])) (fun q' => hb (by simp [q'])) (fun q' => hb (by simp [q'])) (fun q' => hb (by simp [q'])) q)) hf (Nat.le_refl _) new
    refine ⟨.ref s.heap.objs.size, _, I1, rfl, ⟨_, x, y, rfl, I.hok.fresh (Nat.le_refl _), rfl, fun l hl => by rw [Inv.sqK_inj I hl hqx]; exact hx, fun l hl => by rw [Inv.sqK_inj I hl hqy]; exact hy⟩, ⟨z'', ?_, ⟨v1, v2, ?_⟩, ?_, ?_⟩, fun c hcm => ?_⟩
    · exact (sb.2 _ D.TIz).trans (hk _ _ D.TIz D.TITO D.TIi1 D.TIi2 hTI)
    · exact (sb.2 _ D.TOz).trans TO'
    · exact h1'.1.at fun o q => (sb.2 _ D.i1z).trans q
    · exact h2'.1.at fun o q => (sb.2 _ D.i2z).trans q
    · have hlt : c < s.heap.objs.size := by
        have e' : c = z ∨ c = TI ∨ c = TO ∨ c = i1 ∨ c = i2 := by simpa using hcm
        rcases e' with q | q | q | q | q
        · rw [q]; exact hzl
        · rw [q]; exact Heap.lt_size hTI
        · rw [q]; exact Heap.lt_size hTO
        · rw [q]; obtain ⟨_, e1, _⟩ := h1.obj; exact Heap.lt_size e1
        · rw [q]; obtain ⟨_, e2, _⟩ := h2.obj; exact Heap.lt_size e2
      rw [upd_ne (Nat.ne_of_lt hlt)]
      exact (hf c hcm).1
  done := by
    intro X hP hw hK hc i pins s σ H E I hf st hg
    subst hP hw hK
    obtain ⟨hz, hTI, ⟨x0, y0, hTO⟩, h1, h2⟩ := st
    obtain ⟨xs, ys, hqx, hqy, le1, le2, hend⟩ := hg
    obtain ⟨its, rv, p⟩ := Inv.sqK I hqx
    obtain ⟨its2, rv2, p2⟩ := Inv.sqK I hqy
    have hh : X.A.in1.handled = none := I.ok.hd hc
    have l1 := rv.length
    have l2 := rv2.length
    exact wpAny_pyNext_zipD2_end (zipSep D) (drawsK (A := X.A.in1) k1 hh i1 a D.l1i1 its.toArray) (drawsK (A := X.A.in1) k2 hh i2 b D.l2i2 its2.toArray) hz hTI hTO ⟨h1, p⟩ ⟨h2, p2⟩ (by simp; omega) (by simp; omega) (by simp; omega) fun h' tk hk => ⟨rfl, I.turnedL (t' := tk) (ch := [z, TI, TO, i1, i2]) (fun c o hb q =>
      hk c o (fun q' => hb (by simp [q'])) (fun q' => hb (by simp [q'])) (fun q' => hb (by simp [q'])) (fun q' => hb (by simp [q'])) q) hf⟩
  self := fun A i s Q E st h => wpAny_pyIter_zip st.1 h
abbrev itO (k : Bool) (l : Addr) : Obj := if k = true then { cls := .type "list_iterator", data := .fields #[.ref l, .int 0 0] } else { cls := .type "tuple_iterator", data := .fields #[.ref l, .int 0 0] }
abbrev zM1 (h : Heap) (k1 : Bool) (l1 : Addr) : Heap := h.push (itO k1 l1)
abbrev zM2 (h : Heap) (k1 k2 : Bool) (l1 l2 : Addr) : Heap := (zM1 h k1 l1).push (itO k2 l2)
abbrev zM3 (h : Heap) (k1 k2 : Bool) (l1 l2 : Addr) : Heap := (zM2 h k1 k2 l1 l2).push { cls := .type "tuple", data := .seq #[.ref h.objs.size, .ref (zM1 h k1 l1).objs.size] }
abbrev zM4 (h : Heap) (k1 k2 : Bool) (l1 l2 : Addr) : Heap := (zM3 h k1 k2 l1 l2).push { cls := .type "tuple", data := .seq #[.none, .none] }
abbrev zM5 (h : Heap) (k1 k2 : Bool) (l1 l2 : Addr) : Heap := (zM4 h k1 k2 l1 l2).push { cls := .type "zip", data := .fields #[.none, .bool false, .bool false, .ref (zM2 h k1 k2 l1 l2).objs.size, .ref (zM3 h k1 k2 l1 l2).objs.size] }
theorem meets_zLT (l1 l2 : Addr) (xs ys : Array Value) :
    Meets (Builtin.«zip.__new__» ⟨[.type "zip", .ref l1, .ref l2], []⟩) (fun _ R s => s.heap.IsList l1 xs ∧ s.heap.IsTuple l2 ys ∧
      R (.ok (.ret (.ref (zM4 s.heap true false l1 l2).objs.size))) { s with heap := zM5 s.heap true false l1 l2 }) :=
  .of_wp fun prog w A R s h => by
    obtain ⟨hp, g, d, tk, os⟩ := s; obtain ⟨hl1, hl2, h⟩ := h
    have hsub := sub_zip
    have hL1 : Heap.IsList (Shared.heap ⟨hp, g, d, tk, os⟩) l1 xs := hl1
    have hL2 : Heap.IsTuple (Shared.heap ⟨hp.push { cls := .type "list_iterator", data := .fields #[.ref l1, .int 0 0] }, g, d, tk, os⟩) l2 ys := Heap.IsTuple.push hl2 _
    wp_walk using wpAny_pyIter_list hL1, wpAny_pyIter_tuple hL2
    exact ⟨_, rfl, h⟩
theorem meets_zTL (l1 l2 : Addr) (xs ys : Array Value) :
    Meets (Builtin.«zip.__new__» ⟨[.type "zip", .ref l1, .ref l2], []⟩) (fun _ R s => s.heap.IsTuple l1 xs ∧ s.heap.IsList l2 ys ∧
      R (.ok (.ret (.ref (zM4 s.heap false true l1 l2).objs.size))) { s with heap := zM5 s.heap false true l1 l2 }) :=
  .of_wp fun prog w A R s h => by
    obtain ⟨hp, g, d, tk, os⟩ := s; obtain ⟨hl1, hl2, h⟩ := h
    have hsub := sub_zip
    have hL1 : Heap.IsTuple (Shared.heap ⟨hp, g, d, tk, os⟩) l1 xs := hl1
    have hL2 : Heap.IsList (Shared.heap ⟨hp.push { cls := .type "tuple_iterator", data := .fields #[.ref l1, .int 0 0] }, g, d, tk, os⟩) l2 ys := Heap.IsList.push hl2 _
    wp_walk using wpAny_pyIter_tuple hL1, wpAny_pyIter_list hL2
    exact ⟨_, rfl, h⟩
section
variable {prog : Program} {w : World} {A : Around} {E : Value → Shared → Prop} {s : Shared}
theorem itO_iter {k : Bool} {h : Heap} {it l : Addr} (g : h.get? it = some (itO k l)) : IterK k h it l 0 := by
  cases k with
  | true => exact ⟨_, g, rfl, rfl⟩
  | false => exact ⟨_, g, rfl, rfl⟩
theorem itO_free (k : Bool) (l : Addr) : (itO k l).isFreed = false := by cases k <;> rfl
theorem call_zM {k1 k2 : Bool} {l1 l2 : Addr} {xs ys : Array Value} {Q : Value → Shared → Prop} (hm : Meets (Builtin.«zip.__new__» ⟨[.type "zip", .ref l1, .ref l2], []⟩) (fun _ R s => SeqK k1 s.heap l1 xs ∧ SeqK k2 s.heap l2 ys ∧
      R (.ok (.ret (.ref (zM4 s.heap k1 k2 l1 l2).objs.size))) { s with heap := zM5 s.heap k1 k2 l1 l2 })) (hl1 : SeqK k1 s.heap l1 xs) (hl2 : SeqK k2 s.heap l2 ys)
    (h : ∀ h', IsZip h' (s.heap.objs.size + 4) (s.heap.objs.size + 2) (s.heap.objs.size + 3) .none → IsPair h' (s.heap.objs.size + 2) (.ref s.heap.objs.size) (.ref (s.heap.objs.size + 1)) →
      IsPair h' (s.heap.objs.size + 3) .none .none → IterK k1 h' s.heap.objs.size l1 0 → IterK k2 h' (s.heap.objs.size + 1) l2 0 → h'.objs.size = s.heap.objs.size + 5 →
      (∀ c o, s.heap.get? c = some o → h'.get? c = some o) → Q (.ref (s.heap.objs.size + 4)) { s with heap := h' }) :
    wpAny (model prog w) A (call (.type "zip") [.ref l1, .ref l2]) Q E s := by
  refine callType_new F.called_zip (by decide) (F.typeCall_zip_2 _ _) (F.newCall_zip_2 _ _) (fun obj => F.args_object_init_3 obj _ _) F.entry_zip_new
    hm ⟨hl1, hl2, ?_⟩
  have z1 : (zM1 s.heap k1 l1).objs.size = s.heap.objs.size + 1 := Heap.size_push ..
  have z2 : (zM2 s.heap k1 k2 l1 l2).objs.size = s.heap.objs.size + 2 := by rw [Heap.size_push, z1]
  have z3 : (zM3 s.heap k1 k2 l1 l2).objs.size = s.heap.objs.size + 3 := by rw [Heap.size_push, z2]
  have z4 : (zM4 s.heap k1 k2 l1 l2).objs.size = s.heap.objs.size + 4 := by rw [Heap.size_push, z3]
  have z5 : (zM5 s.heap k1 k2 l1 l2).objs.size = s.heap.objs.size + 5 := by rw [Heap.size_push, z4]
  have g5 : (zM5 s.heap k1 k2 l1 l2).get? (zM4 s.heap k1 k2 l1 l2).objs.size = some _ := Heap.get?_push_size _ rfl
  have g4 : (zM5 s.heap k1 k2 l1 l2).get? (zM3 s.heap k1 k2 l1 l2).objs.size = some _ := Heap.get?_push_of_some _ (Heap.get?_push_size _ rfl)
  have g3 : (zM5 s.heap k1 k2 l1 l2).get? (zM2 s.heap k1 k2 l1 l2).objs.size = some _ := Heap.get?_push_of_some _ (Heap.get?_push_of_some _ (Heap.get?_push_size _ rfl))
  have g2 : (zM5 s.heap k1 k2 l1 l2).get? (zM1 s.heap k1 l1).objs.size = some _ := Heap.get?_push_of_some _ (Heap.get?_push_of_some _ (Heap.get?_push_of_some _ (Heap.get?_push_size _ (itO_free _ _))))
  have g1 : (zM5 s.heap k1 k2 l1 l2).get? s.heap.objs.size = some _ := Heap.get?_push_of_some _ (Heap.get?_push_of_some _ (Heap.get?_push_of_some _ (Heap.get?_push_of_some _ (Heap.get?_push_size _ (itO_free _ _)))))
  show _ ∧ _
  rw [z2, z3, z4] at g5
  rw [z1, z2] at g3
  rw [z3] at g4
  rw [z1] at g2
  rw [z4]
  exact ⟨⟨_, g5, rfl⟩, h _ g5 g3 g4 (itO_iter g1) (itO_iter g2) z5 fun c o x =>
    Heap.get?_push_of_some _ (Heap.get?_push_of_some _ (Heap.get?_push_of_some _ (Heap.get?_push_of_some _ (Heap.get?_push_of_some _ x))))⟩
end
def jZipX (K : PySem.W.Frag) (ta : TA) : TI := fun σ H R => ta σ H fun vs H1 => ∃ a b xs ys, vs = [.ref a, .ref b] ∧ ((SqL K H1 a xs ∧ SqL K H1 b ys ∧ R (Itz K a b) H1) ∨ (SqT K H1 a xs ∧ SqT K H1 b ys ∧ R (RZ.ItzT K a b) H1) ∨ (SqL K H1 a xs ∧ SqT K H1 b ys ∧ R (ItzM K true false a b) H1) ∨ (SqT K H1 a xs ∧ SqL K H1 b ys ∧ R (ItzM K false true a b) H1))
theorem pi_zipX {X : Cx} {e e2 : Expr} {ta : TA} {p pos tpos : Pos} {elts : List Expr} {kk : Nat} (hg : Gl X "zip") (hm : X.mg "zip" = none) (ha : PA X [e, e2] ta)
    (hs : starEach [e, e2] X.env = (false, eval e X.env) :: starEach [e2] X.env := by rfl) (hpl : (backTo pos (starEach [e2] X.env)).any (·.1) = false := by rfl) :
    PI X (.Tuple elts kk tpos) (.Call (.Name "zip" p) [e, e2] [] pos) (jZipX X.K ta) := by
  refine ⟨fun pins s σ H R I h => ?_⟩
  refine Call_ (ld_blt I hg hm PyProof.Rows.boot_zip (PyProof.Rows.callWith_type1 (thn (ha.run pos pins s σ H _ I h) fun us s1 ⟨vs, H1, I1, r1, q1⟩ => ?_) hs hpl))
  obtain ⟨a, b, xs, ys, ex, q1⟩ := q1
  subst ex
  cases r1 with
  | cons r rr =>
    cases rr with
    | cons r' rr =>
      cases rr
      cases r
      cases r'
      have fresh5 : ∀ c, c ∈ [s1.heap.objs.size + 4, s1.heap.objs.size + 2, s1.heap.objs.size + 3, s1.heap.objs.size, s1.heap.objs.size + 1] → FpOk X pins H1 c := fun c hcm => by
        have e' : c = s1.heap.objs.size + 4 ∨ c = s1.heap.objs.size + 2 ∨ c = s1.heap.objs.size + 3 ∨ c = s1.heap.objs.size ∨ c = s1.heap.objs.size + 1 := by simpa using hcm
        have hle : s1.heap.objs.size ≤ c := by
          rcases e' with z | z | z | z | z
          · rw [z]; exact Nat.le_add_right _ _
          · rw [z]; exact Nat.le_add_right _ _
          · rw [z]; exact Nat.le_add_right _ _
          · rw [z]; exact Nat.le_refl _
          · rw [z]; exact Nat.le_add_right _ _
        exact I1.fpOk hle (I1.hok.fresh hle)
      rcases q1 with ⟨hqx, hqy, q⟩ | ⟨hqx, hqy, q⟩ | ⟨hqx, hqy, q⟩ | ⟨hqx, hqy, q⟩
      · obtain ⟨its, rv, p1, _⟩ := I1.list hqx
        obtain ⟨its2, rv2, p2, _⟩ := I1.list hqy
        refine call_zip_2 p1.isList p2.isList fun h' hz hTI hTO h1 h2 hsz hk => wpAny_pyIter_zip hz ?_
        have I2 : Inv X pins σ H1 { s1 with heap := h' } := I1.kept (t' := s1.toks) hk
        exact ⟨s1.heap.objs.size + 4, [s1.heap.objs.size + 4, s1.heap.objs.size + 2, s1.heap.objs.size + 3, s1.heap.objs.size, s1.heap.objs.size + 1], _, _, H1, rfl, I2, turn_zip (PySem.W.ktu_apart s1.heap.objs.size a b p1.lt p2.lt), ⟨hz, hTI, ⟨_, _, hTO⟩, h1, h2⟩, fresh5, q⟩
      · obtain ⟨its, rv, p1, _⟩ := I1.tuple hqx
        obtain ⟨its2, rv2, p2, _⟩ := I1.tuple hqy
        obtain ⟨o1, ho1, _⟩ := id p1
        obtain ⟨o2, ho2, _⟩ := id p2
        refine RZ.call_zipT (show s1.heap.IsTuple a its.toArray from p1) (show s1.heap.IsTuple b its2.toArray from p2) fun h' hz hTI hTO h1 h2 hsz hk => wpAny_pyIter_zip hz ?_
        have I2 : Inv X pins σ H1 { s1 with heap := h' } := I1.kept (t' := s1.toks) hk
        exact ⟨s1.heap.objs.size + 4, [s1.heap.objs.size + 4, s1.heap.objs.size + 2, s1.heap.objs.size + 3, s1.heap.objs.size, s1.heap.objs.size + 1], _, _, H1, rfl, I2, RZ.turn_zipT (PySem.W.ktu_apart s1.heap.objs.size a b (Heap.lt_size ho1) (Heap.lt_size ho2)), ⟨hz, hTI, ⟨_, _, hTO⟩, h1, h2⟩, fresh5, q⟩
      · obtain ⟨its, rv, p1, _⟩ := I1.list hqx
        obtain ⟨its2, rv2, p2, _⟩ := I1.tuple hqy
        obtain ⟨o2, ho2, _⟩ := id p2
        refine call_zM (k1 := true) (k2 := false) (meets_zLT a b its.toArray its2.toArray) p1.isList (show s1.heap.IsTuple b its2.toArray from p2) fun h' hz hTI hTO h1 h2 hsz hk => wpAny_pyIter_zip hz ?_
        have I2 : Inv X pins σ H1 { s1 with heap := h' } := I1.kept (t' := s1.toks) hk
        exact ⟨s1.heap.objs.size + 4, [s1.heap.objs.size + 4, s1.heap.objs.size + 2, s1.heap.objs.size + 3, s1.heap.objs.size, s1.heap.objs.size + 1], _, _, H1, rfl, I2, turn_zipM (PySem.W.ktu_apart s1.heap.objs.size a b p1.lt (Heap.lt_size ho2)), ⟨hz, hTI, ⟨_, _, hTO⟩, h1, h2⟩, fresh5, q⟩
      · obtain ⟨its, rv, p1, _⟩ := I1.tuple hqx
        obtain ⟨its2, rv2, p2, _⟩ := I1.list hqy
        obtain ⟨o1, ho1, _⟩ := id p1
        refine call_zM (k1 := false) (k2 := true) (meets_zTL a b its.toArray its2.toArray) (show s1.heap.IsTuple a its.toArray from p1) p2.isList fun h' hz hTI hTO h1 h2 hsz hk => wpAny_pyIter_zip hz ?_
        have I2 : Inv X pins σ H1 { s1 with heap := h' } := I1.kept (t' := s1.toks) hk
        exact ⟨s1.heap.objs.size + 4, [s1.heap.objs.size + 4, s1.heap.objs.size + 2, s1.heap.objs.size + 3, s1.heap.objs.size, s1.heap.objs.size + 1], _, _, H1, rfl, I2, turn_zipM (PySem.W.ktu_apart s1.heap.objs.size a b (Heap.lt_size ho1) p2.lt), ⟨hz, hTI, ⟨_, _, hTO⟩, h1, h2⟩, fresh5, q⟩
def iZipX (f : Av) : Iv := fun ρ S => (f ρ S).bind fun vs S1 => (frs vs S1).bind fun ds S2 => match ds with
  | [.list xs, .list ys] => .ok (zipD xs ys) S2
  | [.tuple xs, .tuple ys] => .ok (zipD xs ys) S2
  | [.list xs, .tuple ys] => .ok (zipD xs ys) S2
  | [.tuple xs, .list ys] => .ok (zipD xs ys) S2
  | _ => .bad
section
variable {K : PySem.W.Frag} {F : Addr → Prop} {H : Hp} {a b : Addr} {xs ys : List V} {ds es : List D}
theorem yl_zipM {k1 k2 : Bool} (at_ : ∀ H', Agree F H H' → SqK K k1 H' a xs) (h2 : FzAll K F H xs ds) (bt_ : ∀ H', Agree F H H' → SqK K k2 H' b ys) (h4 : FzAll K F H ys es) : Yl K F H (ItzM K k1 k2 a b) (zipD ds es) := by
  refine ⟨fun i H' hi g => ?_, fun H' g => ⟨xs, ys, at_ H' g, bt_ H' g, by have := h2.len; have := h4.len; rw [zipD_len]; omega, by have := h2.len; have := h4.len; rw [zipD_len]; omega, by have := h2.len; have := h4.len; rw [zipD_len]; omega⟩, fun i H' v H'' hi g y => ?_⟩ <;> rw [zipD_len] at hi
  · obtain ⟨v, hv, _⟩ := h2.get (List.getElem?_eq_getElem (by omega : i < ds.length))
    obtain ⟨u, hu, _⟩ := h4.get (List.getElem?_eq_getElem (by omega : i < es.length))
    exact ⟨xs, ys, v, u, at_ H' g, bt_ H' g, hv, hu⟩
  · obtain ⟨v', hv, fv⟩ := h2.get (List.getElem?_eq_getElem (by omega : i < ds.length))
    obtain ⟨u', hu, fu⟩ := h4.get (List.getElem?_eq_getElem (by omega : i < es.length))
    obtain ⟨T, x, y, e1, e2, e3, e4, e5⟩ := y
    have e := e4 xs (at_ H' g)
    rw [hv] at e
    cases e
    have e := e5 ys (bt_ H' g)
    rw [hu] at e
    cases e
    exact ⟨_, zipD_get (by omega) (by omega), .inr ⟨T, _, _, e1, e2, e3, rfl, .cons fv (.cons fu .nil)⟩⟩
end
section
variable {X : Cx} {W : WX} {c d : Expr} {p pos tpos : Pos} {elts : List Expr} {kk : Nat}
theorem di_zipX {fs : Av} (hg : Gl X "zip") (hm : X.mg "zip" = none) (h : DA τ X W [c, d] fs) (hs : starEach [c, d] X.env = (false, eval c X.env) :: starEach [d] X.env := by rfl) (hpl : (backTo pos (starEach [d] X.env)).any (·.1) = false := by rfl) : DI τ X W (.Tuple elts kk tpos) (.Call (.Name "zip" p) [c, d] [] pos) (iZipX fs) :=
  ⟨PI.mono (pi_zipX hg hm h.r hs hpl) fun σ H R ⟨φ, F, ρ, S, g, sl, q⟩ => by
    refine ⟨φ, F, ρ, S, g, sl, PostG.bind g q fun φ1 F1 H1 S1 vs xs nw1 r1 p1 => ?_⟩
    obtain ⟨φ2, F2, S2, ds, nw2, f2, p2⟩ := frs_ok (k := fun ds S2 => (match ds with
      | [.list xs, .list ys] => .ok (zipD xs ys) S2
      | [.tuple xs, .tuple ys] => .ok (zipD xs ys) S2
      | [.list xs, .tuple ys] => .ok (zipD xs ys) S2
      | [.tuple xs, .list ys] => .ok (zipD xs ys) S2
      | _ => .bad : Res (List D))) nw1.sg r1 p1
    have p3 := PostG.start nw1.sg nw2 p2
    split at p3
    · cases f2 with
      | cons fa t => cases t with
        | cons fb t => cases t with
          | nil => cases fa with
            | lst h1 h2 h3 => cases fb with
              | lst h4 h5 h6 => exact ⟨_, _, _, _, rfl, .inl ⟨.inl (.inl h2), .inl (.inl h5), p3 _ _ _ (.refl nw2.sg) _ (yl_zipL h1 h2 h3 h4 h5 h6)⟩⟩
    · cases f2 with
      | cons fa t => cases t with
        | cons fb t => cases t with
          | nil => cases fa with
            | tup h1 h2 => cases fb with
              | tup h4 h5 => exact ⟨_, _, _, _, rfl, .inr (.inl ⟨h1.sq, h4.sq, p3 _ _ _ (.refl nw2.sg) _ (yl_zipT h1 h2 h4 h5)⟩)⟩
    · cases f2 with
      | cons fa t => cases t with
        | cons fb t => cases t with
          | nil => cases fa with
            | lst h1 h2 h3 => cases fb with
              | tup h4 h5 => exact ⟨_, _, _, _, rfl, .inr (.inr (.inl ⟨.inl (.inl h2), h4.sq, p3 _ _ _ (.refl nw2.sg) _ (yl_zipM (fun H' g => .inl (.inl ((g _ h1).trans h2))) h3 (fun H' g => (h4.ext (fun _ h => h) g).sq) h5)⟩))⟩
    · cases f2 with
      | cons fa t => cases t with
        | cons fb t => cases t with
          | nil => cases fa with
            | tup h4 h5 => cases fb with
              | lst h1 h2 h3 => exact ⟨_, _, _, _, rfl, .inr (.inr (.inr ⟨h4.sq, .inl (.inl h2), p3 _ _ _ (.refl nw2.sg) _ (yl_zipM (fun H' g => (h4.ext (fun _ h => h) g).sq) h5 (fun H' g => .inl (.inl ((g _ h1).trans h2))) h3)⟩))⟩
    · exact p3.elim⟩
end
theorem mod_l {x y m : Int} (h : 0 < m) (h2 : m < 18446744073709551616) : mulOk (x % m) y = true := mulOk_l (by
  have a := Int.emod_nonneg x (by omega : m ≠ 0)
  have b := Int.emod_lt_of_pos x h
  omega)
theorem mod_r {x y m : Int} (h : 0 < m) (h2 : m < 18446744073709551616) : mulOk y (x % m) = true := mulOk_r (by
  have a := Int.emod_nonneg x (by omega : m ≠ 0)
  have b := Int.emod_lt_of_pos x h
  omega)
theorem num_l {x y : Int} (h : x.natAbs < 18446744073709551616) : mulOk x y = true := mulOk_l h
theorem num_r {x y : Int} (h : x.natAbs < 18446744073709551616) : mulOk y x = true := mulOk_r h
def isI : D → Bool
  | .int _ => true
  | _ => false
def inI (lo hi : Int) : D → Bool
  | .int i => decide (lo ≤ i ∧ i ≤ hi)
  | _ => false
theorem inI_not {lo hi : Int} {d : D} (h : isI d = false) : inI lo hi d = false := by
  cases d <;> first | rfl | cases h
theorem all_bools (bs : List Bool) (S : Store) : fAll [.d (.list (bs.map PyData.bool))] S = .ok (.d (.bool (bs.all id))) S := by
  have h1 : PyData.plainAll (bs.map PyData.bool) = true := by induction bs with
    | nil => rfl
    | cons n bs ih => simp [PyData.plainAll, PyData.plain, ih]
  have h2 : PyData.depthAll (bs.map PyData.bool) = 0 := by induction bs with
    | nil => rfl
    | cons n bs ih => simp [PyData.depthAll, PyData.depth, ih (by simpa [PyData.plainAll, PyData.plain] using h1)]
  have h3 : (bs.map PyData.bool).all fitsB = true := by simp [fitsB]
  have h4 : (bs.map PyData.bool).all PyData.truthy = bs.all id := by
    rw [List.all_map]
    congr 1
  simp [fAll, fSeq, seqOf, seqOk, h1, h2, h3, h4]
theorem lcL_flag {tg : Tg} {f : Ev} {ρ : Env} {S : Store} (p : D → Bool) (xs : List D) (h : ∀ x ∈ xs, ∃ ρ1, tg (.d x) ρ = some ρ1 ∧ f ρ1 S = .ok (.d (.bool (p x))) S) (hl : xs.length ≤ 1000) : lcL tg tYesD f ρ xs [] S = .ok ((xs.map p).map PyData.bool) S := by
  have e := lcL_all (tg := tg) (f := f) (ρ := ρ) (fun x => .bool (p x)) (S := S) xs [] h (by simpa using hl)
  rw [List.nil_append] at e
  rw [e]
  simp
theorem cut_tail (ds : List D) : cutD ds (some 1) none = ds.tail := by
  unfold cutD
  rw [HT.sIx_none, show HT.sIx ds.length 0 (some 1) = min 1 ds.length from HT.sIx_nat _ _ 1]
  cases ds with
  | nil => rfl
  | cons d ds => simp [Nat.min_eq_left]
theorem cut_head (ds : List D) : cutD ds none (some 1) = ds.take 1 := by
  unfold cutD
  rw [HT.sIx_none, show HT.sIx ds.length ds.length (some 1) = min 1 ds.length from HT.sIx_nat _ _ 1]
  cases ds with
  | nil => rfl
  | cons d ds => simp [Nat.min_eq_left]
theorem lcL_fm {α : Type} {tg : Tg} {t : Tv} {f : Ev} {ρ : Env} {S : Store} (dt : α → D) (p : α → Bool) (g : α → D) (xs : List α) (h : ∀ x ∈ xs, ∃ ρ1, tg (.d (dt x)) ρ = some ρ1 ∧ t ρ1 S = .ok (p x) S ∧ f ρ1 S = .ok (.d (g x)) S) (hl : xs.length ≤ 1000) : lcL tg t f ρ (xs.map dt) [] S = .ok ((xs.filter p).map g) S := by
  suffices H : ∀ (xs : List α) (acc : List D), (∀ x ∈ xs, ∃ ρ1, tg (.d (dt x)) ρ = some ρ1 ∧ t ρ1 S = .ok (p x) S ∧ f ρ1 S = .ok (.d (g x)) S) → acc.length + xs.length ≤ 1000 → lcL tg t f ρ (xs.map dt) acc S = .ok (acc ++ (xs.filter p).map g) S by
    have := H xs [] h (by simpa using hl)
    simpa using this
  intro xs
  induction xs with
  | nil => intro acc _ _; simp
  | cons x xs ih =>
    intro acc h hl
    obtain ⟨ρ1, e1, e2, e3⟩ := h x (by simp)
    have hl' : acc.length + (xs.length + 1) ≤ 1000 := hl
    have hs : acc.length < sizeLine := Nat.lt_of_lt_of_le (by omega) (line1000 (Nat.le_refl 1000))
    rw [List.map_cons]
    unfold lcL
    cases q : p x with
    | true =>
      have ih := ih (acc ++ [g x]) (fun y hy => h y (by simp [hy])) (by simp; omega)
      rw [q] at e2
      simp only [e1, e2, noX_ok, bind_ok, if_true, e3, fr_d, hs]
      rw [ih]
      simp [q]
    | false =>
      have ih := ih acc (fun y hy => h y (by simp [hy])) (by omega)
      rw [q] at e2
      simp only [e1, e2, noX_ok, bind_ok, Bool.false_eq_true, if_false]
      rw [ih]
      simp [q]
theorem any_bools (bs : List Bool) (S : Store) : fAny [.d (.list (bs.map PyData.bool))] S = .ok (.d (.bool (bs.any id))) S := by
  have h1 : PyData.plainAll (bs.map PyData.bool) = true := by induction bs with
    | nil => rfl
    | cons n bs ih => simp [PyData.plainAll, PyData.plain, ih]
  have h2 : PyData.depthAll (bs.map PyData.bool) = 0 := by induction bs with
    | nil => rfl
    | cons n bs ih => simp [PyData.depthAll, PyData.depth, ih (by simpa [PyData.plainAll, PyData.plain] using h1)]
  have h3 : (bs.map PyData.bool).all fitsB = true := by simp [fitsB]
  have h4 : (bs.map PyData.bool).any PyData.truthy = bs.any id := by
    rw [List.any_map]
    congr 1
  simp [fAny, fSeq, seqOf, seqOk, h1, h2, h3, h4]
theorem oEq_same {d : D} {S : Store} (h : shal d = true) : oEq (.d d) (.d d) S = .ok (.d (.bool true)) S := by
  have p : d.plain = true := by simp [shal] at h; exact h.1
  simp [oEq, h, eqv_refl d p]
theorem oNe_same {d : D} {S : Store} (h : shal d = true) : oNe (.d d) (.d d) S = .ok (.d (.bool false)) S := by
  have p : d.plain = true := by simp [shal] at h; exact h.1
  simp [oNe, h, eqv_refl d p]
theorem zip_map {α β : Type} (f : α → D) (g : β → D) (xs : List α) (ys : List β) : zipD (xs.map f) (ys.map g) = (List.zip xs ys).map fun p => .tuple [f p.1, g p.2] := by
  unfold zipD
  rw [List.zipWith_map, List.zip, List.map_zipWith]
theorem lcL_map {α : Type} {tg : Tg} {f : Ev} {ρ : Env} {S : Store} (dt : α → D) (g : α → D) (xs : List α) (h : ∀ x ∈ xs, ∃ ρ1, tg (.d (dt x)) ρ = some ρ1 ∧ f ρ1 S = .ok (.d (g x)) S) (hl : xs.length ≤ 1000) : lcL tg tYesD f ρ (xs.map dt) [] S = .ok (xs.map g) S := by
  suffices H : ∀ (xs : List α) (acc : List D), (∀ x ∈ xs, ∃ ρ1, tg (.d (dt x)) ρ = some ρ1 ∧ f ρ1 S = .ok (.d (g x)) S) → acc.length + xs.length ≤ 1000 → lcL tg tYesD f ρ (xs.map dt) acc S = .ok (acc ++ xs.map g) S by
    have := H xs [] h (by simpa using hl)
    simpa using this
  intro xs
  induction xs with
  | nil => intro acc _ _; simp
  | cons x xs ih =>
    intro acc h hl
    obtain ⟨ρ1, e1, e2⟩ := h x (by simp)
    have hl' : acc.length + (xs.length + 1) ≤ 1000 := hl
    have hs : acc.length < sizeLine := Nat.lt_of_lt_of_le (by omega) (line1000 (Nat.le_refl 1000))
    have ih := ih (acc ++ [g x]) (fun y hy => h y (by simp [hy])) (by simp; omega)
    rw [List.map_cons]
    unfold lcL
    simp only [e1, ap_tYesD, noX_ok, bind_ok, if_true, e2, fr_d, hs]
    rw [ih]
    simp
theorem zip_mem {ds : List D} {x : D} (h : x ∈ zipD ds ds) : ∃ d ∈ ds, x = .tuple [d, d] := by
  unfold zipD at h
  rw [List.zipWith_self] at h
  obtain ⟨d, hd, rfl⟩ := List.mem_map.mp h
  exact ⟨d, hd, rfl⟩
theorem all_true {n : Nat} {S : Store} (ds : List D) (h : ds = List.replicate n (.bool true)) : fAll [.d (.list ds)] S = .ok (.d (.bool true)) S := by
  have := all_bools (List.replicate n true) S
  rw [List.map_replicate, ← h] at this
  simpa using this
def mnL : List Int → Int
  | [] => 0
  | x :: xs => xs.foldl min x
def mxL : List Int → Int
  | [] => 0
  | x :: xs => xs.foldl max x
theorem fold_min_le : ∀ (xs : List Int) (a : Int), xs.foldl min a ≤ a ∧ (∀ x ∈ xs, xs.foldl min a ≤ x) ∧ (xs.foldl min a = a ∨ xs.foldl min a ∈ xs)
  | [], a => ⟨Int.le_refl _, by simp, .inl rfl⟩
  | y :: ys, a => by
    obtain ⟨h1, h2, h3⟩ := fold_min_le ys (min a y)
    rw [List.foldl_cons]
    refine ⟨by omega, fun x hx => ?_, ?_⟩
    · rcases List.mem_cons.mp hx with rfl | hx
      · omega
      · exact h2 x hx
    · rcases h3 with h3 | h3
      · by_cases z : a ≤ y
        · left; omega
        · right; rw [h3, show min a y = y by omega]; exact List.mem_cons_self
      · right; exact List.mem_cons_of_mem _ h3
theorem fold_max_le : ∀ (xs : List Int) (a : Int), a ≤ xs.foldl max a ∧ (∀ x ∈ xs, x ≤ xs.foldl max a) ∧ (xs.foldl max a = a ∨ xs.foldl max a ∈ xs)
  | [], a => ⟨Int.le_refl _, by simp, .inl rfl⟩
  | y :: ys, a => by
    obtain ⟨h1, h2, h3⟩ := fold_max_le ys (max a y)
    rw [List.foldl_cons]
    refine ⟨by omega, fun x hx => ?_, ?_⟩
    · rcases List.mem_cons.mp hx with rfl | hx
      · omega
      · exact h2 x hx
    · rcases h3 with h3 | h3
      · by_cases z : y ≤ a
        · left; omega
        · right; rw [h3, show max a y = y by omega]; exact List.mem_cons_self
      · right; exact List.mem_cons_of_mem _ h3
theorem mn_le {F : List Int} {x : Int} (h : x ∈ F) : mnL F ≤ x := by
  cases F with
  | nil => cases h
  | cons y ys =>
    obtain ⟨h1, h2, _⟩ := fold_min_le ys y
    rcases List.mem_cons.mp h with rfl | h
    · exact h1
    · exact h2 x h
theorem mn_mem {F : List Int} (h : F ≠ []) : mnL F ∈ F := by
  cases F with
  | nil => exact absurd rfl h
  | cons y ys =>
    obtain ⟨_, _, h3⟩ := fold_min_le ys y
    rcases h3 with h3 | h3
    · show ys.foldl min y ∈ _; rw [h3]; exact List.mem_cons_self
    · exact List.mem_cons_of_mem _ h3
theorem le_mx {F : List Int} {x : Int} (h : x ∈ F) : x ≤ mxL F := by
  cases F with
  | nil => cases h
  | cons y ys =>
    obtain ⟨h1, h2, _⟩ := fold_max_le ys y
    rcases List.mem_cons.mp h with rfl | h
    · exact h1
    · exact h2 x h
theorem mx_mem {F : List Int} (h : F ≠ []) : mxL F ∈ F := by
  cases F with
  | nil => exact absurd rfl h
  | cons y ys =>
    obtain ⟨_, _, h3⟩ := fold_max_le ys y
    rcases h3 with h3 | h3
    · show ys.foldl max y ∈ _; rw [h3]; exact List.mem_cons_self
    · exact List.mem_cons_of_mem _ h3
def atN (F : List Int) (i : Nat) : Int := F.getD i 0
theorem atN_lt {F : List Int} {i : Nat} (h : i < F.length) : atN F i = F[i] := by simp [atN, h]
theorem atN_mem {F : List Int} {i : Nat} (h : i < F.length) : atN F i ∈ F := by rw [atN_lt h]; exact List.getElem_mem h
def iD (F : List Int) : List D := F.map PyData.int
theorem alike_ints (ns : List Int) : alikeOk (ns.map PyData.int) = true := by
  simp [alikeOk, PySem.W.alike, isNone]
theorem plain_ints (ns : List Int) : PyData.plainAll (ns.map PyData.int) = true ∧ PyData.depthAll (ns.map PyData.int) = 0 := by
  induction ns with
  | nil => exact ⟨rfl, rfl⟩
  | cons n ns ih => simp [PyData.plainAll, PyData.plain, PyData.depthAll, PyData.depth, ih.1, ih.2]
theorem seqok_ints (ns : List Int) : seqOk (ns.map PyData.int) = true := by
  have p := plain_ints ns
  unfold seqOk
  rw [p.1, p.2]
  rfl
theorem max_of {v : Vl} {F : List Int} {S : Store} (h : view S v = some (.list (iD F))) (h0 : F ≠ []) : fMax1 [v] S = .ok (.d (.int (mxL F))) S := by
  cases F with
  | nil => exact absurd rfl h0
  | cons n ns =>
    have a := alike_ints (n :: ns)
    have m := PySem.W.maxD_ints n ns
    have ok := seqok_ints (n :: ns)
    simp only [List.map_cons] at a ok
    simp [fMax1, fSeq, h, seqOf, ok, a, m, iD, mxL]
theorem min_of {v : Vl} {F : List Int} {S : Store} (h : view S v = some (.list (iD F))) (h0 : F ≠ []) : fMin1 [v] S = .ok (.d (.int (mnL F))) S := by
  cases F with
  | nil => exact absurd rfl h0
  | cons n ns =>
    have a := alike_ints (n :: ns)
    have m := PySem.W.minD_ints n ns
    have ok := seqok_ints (n :: ns)
    simp only [List.map_cons] at a ok
    simp [fMin1, fSeq, h, seqOf, ok, a, m, iD, mnL]
theorem iD_set {F : List Int} {i : Nat} {v : Int} : (iD F).set i (.int v) = iD (F.set i v) := by simp [iD, List.map_set]
theorem iD_len {F : List Int} : (iD F).length = F.length := by simp [iD]
theorem at_iD {F : List Int} {i : Nat} (h : i < F.length) : atI (iD F) (i : Nat) = some (.int (atN F i)) := by
  rw [atI_nat, atN_lt h]
  simp [iD, h]
theorem ixN_ok {n i : Nat} (h : i < n) : ixN n (i : Int) = some i := by
  have : (i : Int) < n := by omega
  simp [ixN, this]
theorem sum_of (ns : List Int) (S : Store) : fSum1 [.d (.list (iD ns))] S = .ok (.d (.int ns.sum)) S := by
  have h : intsOf (iD ns) = some ns := by
    unfold iD
    induction ns with
    | nil => rfl
    | cons n ns ih => simp [intsOf, ih]
  simp [fSum1, h]
theorem sort_ints {F : List Int} (h : F.Pairwise (· ≤ ·)) : sortD (iD F) = iD F := by
  unfold sortD iD
  refine List.mergeSort_of_pairwise ?_
  rw [List.pairwise_map]
  refine h.imp fun {a b} hab => ?_
  have e : PySem.W.dataLe false (fun d => d) (PyData.int a) (PyData.int b) = decide (a ≤ b) := congrFun (congrFun (PySem.W.dataLe_int (fun z : Int => z)) a) b
  rw [e]
  simpa using hab
theorem sorted_ints {F : List Int} {S : Store} (h : F.Pairwise (· ≤ ·)) (hl : F.length ≤ 900) : fSortL false [.d (.list (iD F))] S = .ok (.d (.list (iD F))) S := by
  have a : seqOk (iD F) = true := seqok_ints F
  have b : sortB (iD F) = true := by
    have := alike_ints F
    unfold sortB iD
    rw [this]
    simp
  have sz : F.length ≤ sizeLine := line1000 (by omega)
  simp [fSortL, a, b, iD_len, sz, sort_ints h]
theorem shal_ints (F : List Int) : shal (.list (iD F)) = true := by
  have p := plain_ints F
  simp [shal, PyData.plain, PyData.depth, iD, p.1, p.2]
theorem mx_le {F : List Int} {b : Int} (h0 : F ≠ []) (h : ∀ x ∈ F, x ≤ b) : mxL F ≤ b := h _ (mx_mem h0)
def rangeC (i c : Int) (n : Nat) : List D := (List.range n).map fun k => .int (i + (k : Nat) * c)
def stepOk (i j c : Int) : Bool := decide (c ≠ 0) && (decide (c.natAbs < 1073741824) && Builtin.Range.small i j c)
theorem stepOk_p {i j c : Int} (h : stepOk i j c = true) : RgC i j c (Builtin.Range.rangeSize i j c).toNat := by
  simp only [stepOk, Bool.and_eq_true, decide_eq_true_eq] at h
  exact ⟨h.1, h.2.1, h.2.2, PyProof.Rows.rangeSize_toNat i j c⟩
def iRangeC (f : Av) : Iv := fun ρ S => (f ρ S).bind fun vs S1 => match vs with
  | [v, u, w] => match view S1 v, view S1 u, view S1 w with
    | some (.int i), some (.int j), some (.int c) => if stepOk i j c = true then .ok (rangeC i c (Builtin.Range.rangeSize i j c).toNat) S1 else .bad
    | _, _, _ => .bad
  | _ => .bad
section
variable {K : PySem.W.Frag} {F : Addr → Prop} {H : Hp}
theorem rangeC_len {i c : Int} {n : Nat} : (rangeC i c n).length = n := by simp [rangeC]
theorem yl_rangeC {i c : Int} {n : Nat} : Yl K F H (Itc i c n) (rangeC i c n) := by
  refine ⟨fun k H' hk _ => by rw [rangeC_len] at hk; exact hk, fun H' _ => by rw [rangeC_len]; exact Nat.le_refl _, fun k H' v H'' hk _ y => ?_⟩
  rw [rangeC_len] at hk
  exact ⟨.int (i + (k : Nat) * c), by simp [rangeC, hk], .inl ⟨y.1, by rw [y.2]; exact .int _⟩⟩
end
section
variable {K : PySem.W.Frag} {mg : Str → Option Value} {φ : Nat → Addr} {F : Addr → Prop} {H : Hp} {n : Nat}
theorem reps3 {xs : List V} {v u w : Vl} (r : RepVs K mg φ F H n xs [v, u, w]) : ∃ x y z, xs = [x, y, z] ∧ RepV K mg φ F H n x v ∧ RepV K mg φ F H n y u ∧ RepV K mg φ F H n z w := by
  cases xs with
  | nil => exact r.elim
  | cons x xs =>
    obtain ⟨y, z, e, h1, h2⟩ := reps2 r.2
    exact ⟨x, y, z, by rw [e], r.1, h1, h2⟩
end
theorem cons3 {f g k : Ev} {ρ : Env} {S S1 : Store} {vs : List Vl} (h : aCons f (aCons g (aCons k aNil)) ρ S = .ok vs S1) : ∃ v u w, vs = [v, u, w] := by
  unfold aCons at h
  cases e : f ρ S with
  | ok v S2 =>
    simp only [e, bind_ok] at h
    cases e2 : ((g ρ S2).bind fun v S1 => ((k ρ S1).bind fun v S1 => (aNil ρ S1).bind fun vs S2 => Res.ok (v :: vs) S2).bind fun vs S2 => Res.ok (v :: vs) S2) with
    | ok us S3 =>
      simp only [e2, bind_ok] at h
      cases h
      obtain ⟨u, w, rfl⟩ := cons2 (f := g) (g := k) e2
      exact ⟨v, u, w, rfl⟩
    | ex x S2 => simp only [e2, bind_ex] at h; cases h
    | bad => simp only [e2, bind_bad] at h; cases h
  | ex x S2 => simp only [e, bind_ex] at h; cases h
  | bad => simp only [e, bind_bad] at h; cases h
section
variable {X : Cx} {W : WX} {tg : Expr}
theorem range_3 {f : Av} {σ : L2.St} {H : Hp} {R : It → Hp → Prop} (h : RI τ X.K X.mg W (iRangeC f) σ H R) (h1 : ∀ ρ S vs S1, f ρ S = .ok vs S1 → ∃ v u w, vs = [v, u, w]) : iRng3 (RA τ X.K X.mg W f) σ H R := by
  obtain ⟨φ, F, ρ, S, g, sl, p⟩ := h
  refine ⟨φ, F, ρ, S, g, sl, ?_⟩
  unfold iRangeC at p
  cases e0 : f ρ S with
  | bad => rw [e0] at p; exact p
  | ex e S1 => rw [e0] at p; exact p
  | ok vs S1 =>
    rw [e0] at p
    obtain ⟨v, u, w, rfl⟩ := h1 _ _ _ _ e0
    intro φ1 F1 H1 nw1 xs r
    have p1 := PostG.start g nw1 p
    obtain ⟨x, y, z, rfl, r1, r2, r3⟩ := reps3 r
    simp only [bind_ok] at p1
    split at p1
    · rename_i i j c e1 e2 e3
      by_cases hl : stepOk i j c = true
      · rw [if_pos hl] at p1
        exact ⟨i, j, c, _, by rw [show x = _ from ob_of nw1.sg r1 e1, show y = _ from ob_of nw1.sg r2 e2, show z = _ from ob_of nw1.sg r3 e3], stepOk_p hl, p1 _ _ _ (.refl nw1.sg) _ yl_rangeC⟩
      · rw [if_neg hl] at p1; exact p1.elim
    · exact p1.elim
theorem di_range3 {c d e : Expr} {f f' f'' : Ev} {p pos : Pos} (hg : Gl X "range") (hm : X.mg "range" = none) (h : DA τ X W [c, d, e] (aCons f (aCons f' (aCons f'' aNil)))) (hs : starEach [c, d, e] X.env = (false, eval c X.env) :: starEach [d, e] X.env := by rfl) (hpl : (backTo pos (starEach [d, e] X.env)).any (·.1) = false := by rfl) :
    DI τ X W tg (.Call (.Name "range" p) [c, d, e] [] pos) (iRangeC (aCons f (aCons f' (aCons f'' aNil)))) := ⟨PI.mono (pi_range3 hg hm h.r hs hpl) fun σ H Q q => range_3 q fun _ _ _ _ => cons3⟩
end
def oAddI (a b : Vl) (S : Store) : Res Vl := match view S a, view S b with
  | some (.int i), some (.int j) => .ok (.d (.int (i + j))) S
  | _, _ => .bad
section
variable {K : PySem.W.Frag} {mg : Str → Option Value}
theorem ok_addI : OpOk τ K mg (rI0 fun i j => V.int (i + j)) oAddI := by
  intro φ F H S x y v u Q W g r1 r2 p
  cases e1 : view S v with
  | none => simp only [oAddI, e1] at p; exact p.elim
  | some d1 =>
    cases e2 : view S u with
    | none => simp only [oAddI, e1, e2] at p; cases d1 <;> exact p.elim
    | some d2 =>
      have o1 := ob_of g r1 e1
      have o2 := ob_of g r2 e2
      simp only [oAddI, e1, e2] at p
      cases d1 <;> cases d2 <;> dsimp only at p <;> first | exact p.elim | skip
      exact ⟨_, _, o1, o2, Post.ok g p (.int _)⟩
end
@[simp] theorem oAddI_int {i j : Int} {S : Store} : oAddI (.d (.int i)) (.d (.int j)) S = .ok (.d (.int (i + j))) S := rfl
theorem ap_sAug {i : Nat} {o : Vl → Vl → Store → Res Vl} {f : Ev} {ρ : Env} {S : Store} {v : Vl} (h : ρ[i]? = some (some v)) : sAug i o f ρ S = (f ρ S).st ρ fun u S1 => (o v u S1).st ρ fun w S2 => .nx (ρ.set i (some w)) S2 := by
  unfold sAug
  rw [h]
def rSumX (K : PySem.W.Frag) : List V → Hp → VK → Prop := fun vs H Q => ∃ (a : Addr) (ns : List Int), vs = [V.ref a] ∧ (SqL K H a (ns.map V.int) ∨ SqT K H a (ns.map V.int)) ∧ Q (.int ns.sum) H
theorem sum_rawT {prog : Program} {w : World} {A : Around} {E : Value → Shared → Prop} {s : Shared} {l : Addr} {its : List Value} {ns : List Int} {Q : Value → Shared → Prop} (hh : A.handled = none) (hl : s.heap.IsTuple l its.toArray) (hi : IntsAre its ns)
    (h : ∀ h' tk t', (∀ b o, s.heap.get? b = some o → h'.get? b = some o) → Q (.int ns.sum t') { s with heap := h', toks := tk }) : wpAny (model prog w) A (call (.builtin "sum") [.ref l]) Q E s := by
  obtain ⟨xs, e⟩ := hi.allInts.items
  have hn : numsOf (intItems xs).toList = ns := by rw [← e]; exact hi.numsOf
  rw [nums_intItems] at hn
  rw [e] at hl
  refine PySem.W.ktm_sumG hh hl fun h' tk t' hk => ?_
  have := h h' tk t' hk
  rw [preSum_eq, List.take_of_length_le (by simp), hn]; exact this
theorem call_sumX {X : Cx} (hc : X.calm = true) : CallR X (.builtin "sum") (rSumX X.K) := by
  intro pins s σ H vs us Q I r h
  obtain ⟨a, ns, rfl, hs, q⟩ := h
  rcases hs with hs | hs
  · obtain ⟨its, rv, hl, _⟩ := I.list hs
    rw [Vals.ref1 r]
    exact sum_raw (I.ok.hd hc) hl.isList rv.ints fun h' tk t' hk => ⟨.int _, H, I.kept hk, ⟨_, rfl⟩, q⟩
  · obtain ⟨its, rv, hl, _⟩ := I.tuple hs
    rw [Vals.ref1 r]
    exact sum_rawT (I.ok.hd hc) hl rv.ints fun h' tk t' hk => ⟨.int _, H, I.kept hk, ⟨_, rfl⟩, q⟩
def fSumX : Fn := fun vs S => match vs with
  | [v] => match view S v with
    | some (.list ds) => match intsOf ds with
      | some ns => .ok (.d (.int ns.sum)) S
      | none => .bad
    | some (.tuple ds) => match intsOf ds with
      | some ns => .ok (.d (.int ns.sum)) S
      | none => .bad
    | _ => .bad
  | _ => .bad
theorem ok_sumX {K : PySem.W.Frag} {mg : Str → Option Value} : CallOk τ K mg (rSumX K) fSumX := by
  intro φ F H S xs vs Q W g r p
  unfold fSumX at p
  split at p
  · rename_i v
    obtain ⟨x, rfl, r1⟩ := reps1 r
    split at p
    · rename_i ds e
      obtain ⟨a, ys, rfl, h1, h2⟩ := ob_of g r1 e
      split at p
      · rename_i ns en
        have ey := intsOf_fz en h2
        subst ey
        exact ⟨a, ns, rfl, .inl (.inl (.inl h1)), Post.ok g p (.int _)⟩
      · exact p.elim
    · rename_i ds e
      obtain ⟨a, ys, rfl, h1, h2⟩ := ob_of g r1 e
      split at p
      · rename_i ns en
        have ey := intsOf_fz en h2
        subst ey
        exact ⟨a, ns, rfl, .inr h1.sq, Post.ok g p (.int _)⟩
      · exact p.elim
    · exact p.elim
  · exact p.elim
theorem intsOf_iD (ns : List Int) : intsOf (iD ns) = some ns := by
  unfold iD
  induction ns with
  | nil => rfl
  | cons n ns ih => simp [intsOf, ih]
theorem sumX_list (ns : List Int) (S : Store) : fSumX [.d (.list (iD ns))] S = .ok (.d (.int ns.sum)) S := by
  simp [fSumX, intsOf_iD]
theorem sumX_tup (ns : List Int) (S : Store) : fSumX [.d (.tuple (iD ns))] S = .ok (.d (.int ns.sum)) S := by
  simp [fSumX, intsOf_iD]
theorem sumX_view {v : Vl} {ns : List Int} {S : Store} (h : view S v = some (.list (iD ns))) : fSumX [v] S = .ok (.d (.int ns.sum)) S := by
  simp [fSumX, intsOf_iD, h]
theorem line16 {n : Nat} (h : n ≤ 16000000) : n ≤ sizeLine := Nat.le_trans h (by decide)
theorem lcB_map {α : Type} {tg : Tg} {f : Ev} {ρ : Env} {S : Store} (dt : α → D) (g : α → D) (xs : List α) (h : ∀ x ∈ xs, ∃ ρ1, tg (.d (dt x)) ρ = some ρ1 ∧ f ρ1 S = .ok (.d (g x)) S) (hl : xs.length < 16000000) : lcL tg tYesD f ρ (xs.map dt) [] S = .ok (xs.map g) S := by
  suffices H : ∀ (xs : List α) (acc : List D), (∀ x ∈ xs, ∃ ρ1, tg (.d (dt x)) ρ = some ρ1 ∧ f ρ1 S = .ok (.d (g x)) S) → acc.length + xs.length < 16000000 → lcL tg tYesD f ρ (xs.map dt) acc S = .ok (acc ++ xs.map g) S by
    have := H xs [] h (by simpa using hl)
    simpa using this
  intro xs
  induction xs with
  | nil => intro acc _ _; simp
  | cons x xs ih =>
    intro acc h hl
    obtain ⟨ρ1, e1, e2⟩ := h x (by simp)
    have hl' : acc.length + (xs.length + 1) < 16000000 := hl
    have hs : acc.length < sizeLine := Nat.lt_of_lt_of_le (by omega) (line16 (Nat.le_refl 16000000))
    have ih := ih (acc ++ [g x]) (fun y hy => h y (by simp [hy])) (by simp; omega)
    rw [List.map_cons]
    unfold lcL
    simp only [e1, ap_tYesD, noX_ok, bind_ok, if_true, e2, fr_d, hs]
    rw [ih]
    simp
theorem lcB_fm {α : Type} {tg : Tg} {t : Tv} {f : Ev} {ρ : Env} {S : Store} (dt : α → D) (p : α → Bool) (g : α → D) (xs : List α) (h : ∀ x ∈ xs, ∃ ρ1, tg (.d (dt x)) ρ = some ρ1 ∧ t ρ1 S = .ok (p x) S ∧ f ρ1 S = .ok (.d (g x)) S) (hl : xs.length < 16000000) : lcL tg t f ρ (xs.map dt) [] S = .ok ((xs.filter p).map g) S := by
  suffices H : ∀ (xs : List α) (acc : List D), (∀ x ∈ xs, ∃ ρ1, tg (.d (dt x)) ρ = some ρ1 ∧ t ρ1 S = .ok (p x) S ∧ f ρ1 S = .ok (.d (g x)) S) → acc.length + xs.length < 16000000 → lcL tg t f ρ (xs.map dt) acc S = .ok (acc ++ (xs.filter p).map g) S by
    have := H xs [] h (by simpa using hl)
    simpa using this
  intro xs
  induction xs with
  | nil => intro acc _ _; simp
  | cons x xs ih =>
    intro acc h hl
    obtain ⟨ρ1, e1, e2, e3⟩ := h x (by simp)
    have hl' : acc.length + (xs.length + 1) < 16000000 := hl
    have hs : acc.length < sizeLine := Nat.lt_of_lt_of_le (by omega) (line16 (Nat.le_refl 16000000))
    rw [List.map_cons]
    unfold lcL
    cases q : p x with
    | true =>
      have ih := ih (acc ++ [g x]) (fun y hy => h y (by simp [hy])) (by simp; omega)
      rw [q] at e2
      simp only [e1, e2, noX_ok, bind_ok, if_true, e3, fr_d, hs]
      rw [ih]
      simp [q]
    | false =>
      have ih := ih acc (fun y hy => h y (by simp [hy])) (by omega)
      rw [q] at e2
      simp only [e1, e2, noX_ok, bind_ok, Bool.false_eq_true, if_false]
      rw [ih]
      simp [q]
section
variable {P : Program} {w : World} {A : Around} {E : Value → Shared → Prop} {s : Shared}
set_option maxRecDepth 100000 in
set_option maxHeartbeats 3200000 in
theorem call_set_lstI {l : Addr} {items : Array Value} (ns : List Int) {Q : Value → Shared → Prop} (hh : A.handled = none) (hl : s.heap.IsList l items) (hit : IntsAre items.toList ns) (hb : ns.length + 1 < scanBound)
    (h : ∀ (h' : Heap) (tk c : Nat), SetR w h' s.heap.objs.size (fun j => decide (j ∈ ns)) c → c ≤ ns.length → (∀ b o, s.heap.get? b = some o → h'.get? b = some o) → Q (.ref s.heap.objs.size) { s with heap := h', toks := tk }) :
    wpAny (model P w) A (call (.type "set") [.ref l]) Q E s := by
  have hisz : items.size = ns.length := by
    have q := IntsAre.length hit
    rw [Array.length_toList] at q
    exact q
  obtain ⟨c, tl, hmro⟩ := F.called_set.mro
  have hmade := F.called_set.made
  have hsub := F.called_set.sub
  refine wpAny_call (codeAny_of_tree ?_)
  show wpAny _ _ (callAny (.type "set") _) _ _ _
  refine wpAny_pure ⟨Code.quiet_builtin _ (by decide +kernel), codeAny_builtin F.entry_type_call ?_⟩
  rw [Around.under_plain (weight_type_call_type "set" [.ref l] []) rfl]
  have h1 := F.called_set.notType
  have h2 := F.called_set.canCreate
  have hct := F.typeCall_set_1 (.ref l)
  repeat (any_goals (first | assumption | wp_step))
  refine codeAny_mono (code_set_led1 (.ref l) (E := E) (Q₁ := fun obj s₁ => obj = .ref s.heap.objs.size ∧ s₁ = { s with heap := s.heap.push { cls := .type "set", dict := none, data := .set #[] 0 (.fresh 0 0 (!w.params.followText "set-order")) } }) ⟨rfl, rfl⟩) fun r s₁ hr => ?_
  cases r with
  | error e => exact hr
  | ok fl =>
    cases fl with
    | ret obj =>
      obtain ⟨rfl, rfl⟩ := hr
      have hS : (s.heap.push { cls := .type "set", dict := none, data := .set #[] 0 (.fresh 0 0 (!w.params.followText "set-order")) }).get? s.heap.objs.size = some { cls := .type "set", dict := none, data := .set #[] 0 (.fresh 0 0 (!w.params.followText "set-order")) } := Heap.get?_push_size _ rfl
      have hT : Shared.TypeIs { s with heap := s.heap.push { cls := .type "set", dict := none, data := .set #[] 0 (.fresh 0 0 (!w.params.followText "set-order")) } } (.ref s.heap.objs.size) "set" := ⟨_, hS, rfl⟩
      have hli := F.called_set.init.lookup
      have hbi := F.called_set.init.bind (.ref s.heap.objs.size)
      repeat (any_goals (first | assumption | wp_step))
      refine codeAny_mono (codeAny_call_builtin (R := wants (fun r s₂ => r = .none ∧ ∃ h' tk c, s₂ = { s with heap := h', toks := tk } ∧ SetR w h' s.heap.objs.size (fun j => decide (j ∈ ns)) c ∧ c ≤ ns.length ∧
          (∀ b o, s.heap.get? b = some o → h'.get? b = some o)) E) F.called_set.init.plain F.entry_set_init (check_set_init_1 hT ?_)) fun r₂ s₂ hr₂ => ?_
      · obtain ⟨ol, hol, hcl, nl, hdl⟩ := hl
        obtain ⟨ocls, odict, odata, oslots⟩ := ol
        simp only at hcl hdl
        subst hcl; subst hdl
        have hol' : (s.heap.push { cls := .type "set", dict := none, data := .set #[] 0 (.fresh 0 0 (!w.params.followText "set-order")) }).get? l = some { cls := .type "list", dict := odict, data := .seq items nl, slots := oslots } := Heap.get?_push_of_some _ hol
        have hsls := F.sub_list_set
        have hslf := F.sub_list_frozenset
        have hne : (Value.type "list" == Value.type "dict") = false := by decide
        have hl1 : (s.heap.push { cls := .type "set", dict := none, data := .set #[] 0 (.fresh 0 0 (!w.params.followText "set-order")) }).IsList l items := ⟨_, hol', rfl, nl, rfl⟩
        unfold Builtin.«set.__init__» noKeywords Builtin.Frozenset.updateFrom
        generalize hPI : pyIter = PI
        wp_walk
        subst hPI
        refine wpAny_pyIter_list hl1 ?_
        refine wpAny_bind (wpAny_runValue ?_)
        have hlS : l < s.heap.objs.size := Heap.lt_size hol
        have hh3 : A.in1.in1.in1.handled = none := by simp [hh]
        have hz1 : (s.heap.push { cls := .type "set", dict := none, data := .set #[] 0 (.fresh 0 0 (!w.params.followText "set-order")) }).objs.size = s.heap.objs.size + 1 := Heap.size_push ..
        have hneI : l ≠ (s.heap.push { cls := .type "set", dict := none, data := .set #[] 0 (.fresh 0 0 (!w.params.followText "set-order")) }).objs.size := by
          rw [Heap.size_push]; exact Nat.ne_of_lt (Nat.lt_succ_of_lt hlS)
        have hSf : s.heap.objs.size ∉ [(s.heap.push { cls := .type "set", dict := none, data := .set #[] 0 (.fresh 0 0 (!w.params.followText "set-order")) }).objs.size, l] := by
          rw [Heap.size_push]; simp only [List.mem_cons, List.mem_singleton, List.not_mem_nil, or_false, not_or]
          exact ⟨Nat.ne_of_lt (Nat.lt_succ_self _), Nat.ne_of_gt hlS⟩
        have hval : ∀ (i : Nat) (v : Value), items[i]? = some v → ∃ k t, ns[i]? = some k ∧ v = .int k t := fun i v hv => by
          have hi : i < ns.length := by rw [← hisz]; exact (Array.getElem?_eq_some_iff.mp hv).1
          obtain ⟨t, e⟩ := PyProof.Rows.IntsAre.int_at hit i v (by rw [Array.getElem?_toList]; exact hv)
          refine ⟨ns[i], t, List.getElem?_eq_getElem hi, ?_⟩
          rw [e, List.getD_eq_getElem?_getD, List.getElem?_eq_getElem hi] <;> rfl
        refine set_update_ints ((Walks.list hh3 _ l hneI items).toS) s.heap.objs.size
          hSf ns hisz hb hval (items.size - 0) 0 _ (by omega) (Nat.zero_le _)
          ⟨⟨_, Heap.get?_push_size _ rfl, rfl, rfl⟩, (hl1.push _)⟩ ?hS0 ?hR
        case hS0 =>
          have hget : ((s.heap.push { cls := .type "set", dict := none, data := .set #[] 0 (.fresh 0 0 (!w.params.followText "set-order")) }).push { cls := .type "list_iterator", data := .fields #[.ref l, .int 0 0] }).get? s.heap.objs.size
              = some { cls := .type "set", dict := none, data := .set #[] 0 (.fresh 0 0 (!w.params.followText "set-order")) } := Heap.get?_push_of_some _ hS
          exact ⟨0, Nat.le_refl 0, setR_new_at hget⟩
        case hR =>
          intro s' c' hm hc' hS'
          obtain ⟨h', g2, d', tk', os'⟩ := s'
          have eg : g2 = s.gens := hm.gens
          have ed : d' = s.drawn := hm.drawn
          have eo : os' = s.os := hm.os
          subst eg; subst ed; subst eo
          show wpAny _ _ _ _ _ _
          refine wpAny_pure ?_
          show wpAny _ _ (ret Value.none) _ _ _
          rw [hisz] at hc'
          refine wpAny_pure ⟨rfl, h', tk', c', rfl, hS', hc', fun b o e => ?_⟩
          have hb0 : b < s.heap.objs.size := Heap.lt_size e
          have hb1 : b ≠ s.heap.objs.size := Nat.ne_of_lt hb0
          have hb2 : b ≠ (s.heap.push { cls := .type "set", dict := none, data := .set #[] 0 (.fresh 0 0 (!w.params.followText "set-order")) }).objs.size := by
            rw [Heap.size_push]; exact Nat.ne_of_lt (Nat.lt_succ_of_lt hb0)
          exact hm.heap b o (by simp only [List.mem_cons, List.mem_singleton, List.not_mem_nil, or_false, not_or]; exact ⟨hb1, hb2⟩) (Heap.get?_push_of_some _ (Heap.get?_push_of_some _ e))
      · cases r₂ with
        | error e => exact hr₂
        | ok fl₂ =>
          cases fl₂ with
          | ret r =>
            obtain ⟨rfl, h', tk, c', rfl, hS', hc', hk'⟩ := hr₂
            repeat (any_goals (first | assumption | wp_step))
            exact h _ _ _ hS' hc' hk'
          | _ => exact hr₂.elim
    | _ => exact hr.elim
end
section
variable {X : Cx}
def tSrtSet (K : PySem.W.Frag) (ta : TE) : TE := fun σ H Q => ta σ H fun x H1 => ∃ (l : Addr) (ns : List Int), x = V.ref l ∧ SqL K H1 l (ns.map V.int) ∧ ns.length < 64 ∧ ∀ (ms : List Int) (p : Addr), ms.Pairwise (· < ·) → (∀ k : Int, k ∈ ms ↔ k ∈ ns) → H1 p = none → Q (.ref p) (upd H1 p (.lst (ms.map V.int)))
theorem pe_srtSet {a : Expr} {ta : TE} {p p2 q pos : Pos} (hc : X.calm = true) (hg : Gl X "sorted") (hm : X.mg "sorted" = none) (hg2 : Gl X "set") (hm2 : X.mg "set" = none) (ha : PE X a ta)
    (na : starEach [a] X.env = (false, eval a X.env) :: starEach [] X.env := by rfl) : PE X (.Call (.Name "sorted" p) [.Call (.Name "set" p2) [a] [] q] [] pos) (tSrtSet X.K ta) := by
  refine ⟨fun pins s σ H Q I h => ?_⟩
  refine Call_ (ld_blt I hg hm bb_sorted ?_)
  refine PyProof.Rows.callWith_builtin1 (PyProof.Rows.args_cons ?_ rfl) rfl rfl
  refine Call_ (ld_blt I hg2 hm2 PyProof.Rows.boot_set ?_)
  refine PyProof.Rows.callWith_type1 (PyProof.Rows.args_cons (thn (ha.run pins s σ H _ I h) fun v s1 ⟨x, H1, I1, r1, q1⟩ => PyProof.Rows.args_nil ?_) na) na rfl
  obtain ⟨l, ns, rfl, hq, h64, q1⟩ := q1
  cases r1
  obtain ⟨its, r, pl, hz⟩ := I1.list hq
  have hi : IntsAre its.toArray.toList ns := ints_of_vals r
  refine call_set_lstI ns (I1.ok.hd hc) pl.isList hi (by unfold scanBound; omega) fun h' tk c R1 hcn k => ?_
  refine PyProof.Rows.args_nil ?_
  have I2 : Inv X pins σ H1 { s1 with heap := h', toks := tk } := I1.kept fun b o e => k b o e
  refine sorted_set (s := { s1 with heap := h', toks := tk }) R1 (I2.ok.hd hc) (by omega) fun s' p out c ms k2 g o hp hg hi2 hs hm3 hl => ?_
  have hlen : (ms.map V.int).length ≤ sizeLine := by rw [List.length_map, hl, sizeLine_eq]; omega
  have hn : H1 p = none := I2.hok.fresh hp
  have J : Inv X pins σ (upd H1 p (.lst (ms.map V.int))) { s1 with heap := s'.heap, gens := s'.gens, drawn := s'.drawn, toks := s'.toks } :=
    Inv.call (s := { s1 with heap := h', toks := tk }) I2 (ch := []) (Un.laid k2 hp hn) (I2.hok.laid k2 hp ⟨hlen, out.toList, c, vals_of_ints hi2, hg⟩) (by rw [g]; exact I2.bare) (fun _ z => nomatch z)
  have e : s' = { s1 with heap := s'.heap, gens := s'.gens, drawn := s'.drawn, toks := s'.toks } := by
    cases s'
    cases s1
    cases o
    rfl
  rw [e]
  exact ⟨.ref p, _, J, rfl, q1 ms p hs (fun kk => by rw [hm3 kk, decide_eq_true_eq]) hn⟩
end
def insU (x : Int) : List Int → List Int
  | [] => [x]
  | y :: ys => if x < y then x :: y :: ys else if x = y then y :: ys else y :: insU x ys
def sortU : List Int → List Int
  | [] => []
  | x :: xs => insU x (sortU xs)
theorem insU_mem {x z : Int} : ∀ (ys : List Int), z ∈ insU x ys ↔ z = x ∨ z ∈ ys := by
  intro ys
  induction ys with
  | nil => simp [insU]
  | cons y ys ih =>
    rw [insU]
    by_cases h1 : x < y
    · rw [if_pos h1]; simp
    · rw [if_neg h1]
      by_cases h2 : x = y
      · rw [if_pos h2]
        subst h2
        simp
      · rw [if_neg h2, List.mem_cons, ih, List.mem_cons]
        constructor
        · rintro (h | h | h) <;> simp [h]
        · rintro (h | h | h) <;> simp [h]
theorem insU_st {x : Int} : ∀ (ys : List Int), ys.Pairwise (· < ·) → (insU x ys).Pairwise (· < ·) := by
  intro ys
  induction ys with
  | nil => intro _; simp [insU]
  | cons y ys ih =>
    intro h
    rw [insU]
    have h' := List.pairwise_cons.mp h
    by_cases h1 : x < y
    · rw [if_pos h1, List.pairwise_cons]
      refine ⟨fun z hz => ?_, h⟩
      rcases List.mem_cons.mp hz with rfl | hz
      · exact h1
      · exact Int.lt_trans h1 (h'.1 z hz)
    · rw [if_neg h1]
      by_cases h2 : x = y
      · rw [if_pos h2]; exact h
      · rw [if_neg h2, List.pairwise_cons]
        refine ⟨fun z hz => ?_, ih h'.2⟩
        rcases (insU_mem ys).mp hz with rfl | hz
        · omega
        · exact h'.1 z hz
theorem sortU_mem {z : Int} : ∀ (xs : List Int), z ∈ sortU xs ↔ z ∈ xs := by
  intro xs
  induction xs with
  | nil => simp [sortU]
  | cons x xs ih => rw [sortU, insU_mem, ih, List.mem_cons]
theorem sortU_st : ∀ (xs : List Int), (sortU xs).Pairwise (· < ·) := by
  intro xs
  induction xs with
  | nil => simp [sortU]
  | cons x xs ih => rw [sortU]; exact insU_st _ ih
theorem rise_uniq : ∀ (xs ys : List Int), xs.Pairwise (· < ·) → ys.Pairwise (· < ·) → (∀ z, z ∈ xs ↔ z ∈ ys) → xs = ys := by
  intro xs
  induction xs with
  | nil =>
    intro ys _ _ h
    cases ys with
    | nil => rfl
    | cons y ys => exact absurd ((h y).mpr (by simp)) (by simp)
  | cons x xs ih =>
    intro ys hx hy h
    cases ys with
    | nil => exact absurd ((h x).mp (by simp)) (by simp)
    | cons y ys =>
      have hx' := List.pairwise_cons.mp hx
      have hy' := List.pairwise_cons.mp hy
      have e : x = y := by
        have a : x ∈ y :: ys := (h x).mp (by simp)
        have b : y ∈ x :: xs := (h y).mpr (by simp)
        rcases List.mem_cons.mp a with a | a
        · exact a
        · rcases List.mem_cons.mp b with b | b
          · exact b.symm
          · have := hy'.1 x a
            have := hx'.1 y b
            omega
      subst e
      rw [ih ys hx'.2 hy'.2 fun z => ?_]
      constructor
      · intro hz
        rcases List.mem_cons.mp ((h z).mp (by simp [hz])) with q | q
        · have := hx'.1 z hz; omega
        · exact q
      · intro hz
        rcases List.mem_cons.mp ((h z).mpr (by simp [hz])) with q | q
        · have := hy'.1 z hz; omega
        · exact q
def eSrtSet (m : Bool) (f : Ev) : Ev := fun ρ S => (f ρ S).bind fun v S1 => match view S1 v with
  | some (.list ds) => match intsOf ds with
    | some ns => if ns.length < 64 then mkL m (iD (sortU ns)) S1 else .bad
    | none => .bad
  | _ => .bad
theorem de_srtSet {X : Cx} {W : WX} {e : Expr} {f : Ev} {p p2 q pos : Pos} (m : Bool) (hc : X.calm = true) (hg : Gl X "sorted") (hm : X.mg "sorted" = none) (hg2 : Gl X "set") (hm2 : X.mg "set" = none) (h : DE τ X W e f)
    (na : starEach [e] X.env = (false, eval e X.env) :: starEach [] X.env := by rfl) : DE τ X W (.Call (.Name "sorted" p) [.Call (.Name "set" p2) [e] [] q] [] pos) (eSrtSet m f) :=
  ⟨PE.mono (pe_srtSet hc hg hm hg2 hm2 h.r na) fun σ H Q ⟨φ, F, ρ, S, g, sl, pp⟩ => ⟨φ, F, ρ, S, g, sl, PostG.bind g pp fun φ1 F1 H1 S1 v x nw1 r1 p1 => by
    split at p1
    · rename_i ds e
      obtain ⟨a, ys, rfl, h1, h2⟩ := ob_of nw1.sg r1 e
      split at p1
      · rename_i ns en
        by_cases hl : ns.length < 64
        · rw [if_pos hl] at p1
          have ey := intsOf_fz en h2
          subst ey
          refine ⟨a, ns, rfl, .inl (.inl h1), hl, fun ms p hms hmem hn => ?_⟩
          have eq : ms = sortU ns := rise_uniq _ _ hms (sortU_st ns) fun z => by rw [hmem z, sortU_mem]
          subst eq
          exact Post.newL nw1.sg (fz_ints _) p1 p hn
        · rw [if_neg hl] at p1; exact p1.elim
      · exact p1.elim
    · exact p1.elim⟩⟩
@[simp] theorem ap_eSrtSet {ρ : Env} {S : Store} {m : Bool} {f : Ev} : eSrtSet m f ρ S = (f ρ S).bind fun v S1 => match view S1 v with
  | some (.list ds) => match intsOf ds with
    | some ns => if ns.length < 64 then mkL m (iD (sortU ns)) S1 else .bad
    | none => .bad
  | _ => .bad := rfl
section
variable {X : Cx}
theorem get_list : PGet X (rIxL X.K) := by
  intro pins s σ H o i ov iv Q I ro ri h
  obtain ⟨p, xs, k, z, rfl, rfl, hq, he, q⟩ := h
  cases ro
  obtain ⟨t, rfl⟩ := ri
  obtain ⟨its, r, pl, hz⟩ := I.list hq
  obtain ⟨j, h1, h2, h3, h4, h5⟩ := atI_get he
  obtain ⟨w, ew, rw'⟩ := r.get h2
  have hl := r.length
  have hn := line63
  have fin : EP X pins σ Q w s := ⟨z, H, I, rw', q⟩
  by_cases h0 : 0 ≤ k
  · have hj : k.toNat = j := by
      rw [seqIndex_of h0 h5] at h1
      exact Option.some.inj h1
    exact wpAny_getItem_list pl.isList h0 (by omega) (by rw [hj]; simpa using ew) fin
  · have hj : (k + (its.toArray.size : Int)).toNat = j := by
      rw [seqIndex_neg (by omega) h4] at h1
      rw [List.size_toArray, ← hl]
      exact Option.some.inj h1
    exact wpAny_getItem_list_neg pl.isList (by omega) (by rw [List.size_toArray] <;> omega) (by omega) (by rw [hj]; simpa using ew) fin
end
def putAdd (o i x y : Vl) (ρ : Env) (S : Store) : SRes := match x, y, o, view S i with
  | .d (.int a), .d (.int b), .loc n, some (.int k) => match S[n]? with
    | some (.lst xs) => match ixN xs.length k with
      | some j => .nx ρ (S.set n (.lst (xs.set j (.int (a + b)))))
      | none => .bad
    | _ => .bad
  | _, _, _, _ => .bad
def getL (o i : Vl) (S : Store) : Res Vl := match o, view S i with
  | .loc n, some (.int k) => match S[n]? with
    | some (.lst xs) => match atI xs k with
      | some (.int a) => .ok (.d (.int a)) S
      | _ => .bad
    | _ => .bad
  | _, _ => .bad
def sAddPut (fo fi fe : Ev) : Sv := fun ρ S => (fo ρ S).st ρ fun o S1 => (fi ρ S1).st ρ fun i S2 => (getL o i S2).st ρ fun x S3 => (fe ρ S3).st ρ fun y S4 => putAdd o i x y ρ S4
section
variable {X : Cx} {W : WX} {pos : Pos} {o i e : Expr} {fo fi fe : Ev} {p2 : Pos}
theorem ds_addPut (ho : DE τ X W o fo) (hi : DE τ X W i fi) (he : DE τ X W e fe) 
    (ha : ∀ ov iv new, augStore i ov iv new = (do holding [new, ov, iv] (setItem ov iv new); release [new, ov, iv] []; pure .next) := by intros; rfl) : DS τ X W (.AugAssign (.Subscript o i p2) .Add e pos) (sAddPut fo fi fe) :=
  ⟨PS.mono (ps_augS ho.r hi.r get_list he.r ip_add set_list ha) fun E σ H ⟨φ, F, ρ, S, g, sl, p⟩ => ⟨φ, F, ρ, S, g, sl, PostS.st g sl p fun φ1 F1 H1 S1 ov ox nw1 r1 p1 => ⟨φ1, F1, ρ, S1, nw1.sg, sl.now nw1, PostS.st nw1.sg (sl.now nw1) p1 fun φ2 F2 H2 S2 iv ix nw2 r2 p2 => by
    have sl2 := (sl.now nw1).now nw2
    unfold getL at p2
    split at p2
    · rename_i nn k q
      have r1' := RepV.now nw2 r1
      obtain ⟨hn, rfl⟩ := r1'
      split at p2
      · rename_i xs q2
        split at p2
        · rename_i a q3
          obtain ⟨h1, ys, h2, h3⟩ := nw2.sg.obj nn _ q2
          obtain ⟨v, e1, e2⟩ := h3.atI q3
          have ev : v = .int a := ob_of (S := S2) nw2.sg (show RepV X.K X.mg φ2 F2 H2 S2.length v (.d (.int a)) from e2) rfl
          subst ev
          refine ⟨φ2 nn, ys, k, .int a, rfl, ob_of nw2.sg r2 q, .inl (.inl h2), e1, φ2, F2, ρ, S2, nw2.sg, sl2, PostS.st nw2.sg sl2 p2 fun φ3 F3 H3 S3 yv yx nw3 r3 p3 => ?_⟩
          unfold putAdd at p3
          split at p3
          · rename_i d0 aa bb nn' kk e2 e3 e4
            cases e2
            cases e3
            split at p3
            · rename_i xs3 q5
              split at p3
              · rename_i j q6
                obtain ⟨g1, ys3, g2, g3⟩ := nw3.sg.obj _ _ q5
                have ey : yx = .int bb := ob_of nw3.sg r3 rfl
                have ri : ix = .int kk := ob_of nw3.sg (RepV.now nw3 r2) e4
                obtain ⟨_, er⟩ := RepV.now nw3 (RepV.now nw2 r1)
                have f4 : Fz X.K F3 H3 (.int (a + bb)) (.int (a + bb)) := .int _
                have nw5 := nw3.sg.write (o := .lst (ys3.set j (.int (a + bb)))) (mo := .lst (xs3.set j (.int (a + bb)))) q5 rfl fun nf same => ⟨nf, _, upd_same, (g3.set f4 j).ext (fun _ h => h) same⟩
                exact ⟨a, bb, rfl, ey, φ3 nn, ys3, kk, j, er, ri, g2, by rw [g3.len]; exact q6, PostS.nx nw5.sg ((sl2.now nw3).now nw5) (PostS.start nw3.sg nw5 p3)⟩
              · exact p3.elim
            · exact p3.elim
          · exact p3.elim
        · exact p2.elim
      · exact p2.elim
    · exact p2.elim⟩⟩⟩
end
@[simp] theorem ap_sAddPut {fo fi fe : Ev} {ρ : Env} {S : Store} : sAddPut fo fi fe ρ S = (fo ρ S).st ρ fun o S1 => (fi ρ S1).st ρ fun i S2 => (getL o i S2).st ρ fun x S3 => (fe ρ S3).st ρ fun y S4 => putAdd o i x y ρ S4 := rfl
theorem getL_ok {n : Nat} {v : Vl} {k a : Int} {xs : List D} {S : Store} (hi : view S v = some (.int k)) (hn : S[n]? = some (.lst xs)) (ha : atI xs k = some (.int a)) : getL (.loc n) v S = .ok (.d (.int a)) S := by
  simp only [getL, hi, hn, ha]
theorem putAdd_ok {n j : Nat} {v : Vl} {k a b : Int} {xs : List D} {S : Store} {ρ : Env} (hi : view S v = some (.int k)) (hn : S[n]? = some (.lst xs)) (hj : ixN xs.length k = some j) : putAdd (.loc n) v (.d (.int a)) (.d (.int b)) ρ S = .nx ρ (S.set n (.lst (xs.set j (.int (a + b))))) := by
  simp only [putAdd, hi, hn, hj]
def topS (i : Nat) : Stmt := PySem.Challenge.pw_airfield_k38_whole_hours_apart_and_at_wo.main.body.getD i (.Pass ⟨0, 0, 0, 0⟩)
abbrev s__law_hand : Stmt := topS 28
abbrev s_is_integer : Stmt := topS 1
abbrev s_is_within : Stmt := topS 2
abbrev s_are_within : Stmt := topS 3
abbrev s_check_needs : Stmt := topS 14
abbrev s_check_length : Stmt := topS 15
abbrev s_check_both : Stmt := topS 16
abbrev s_raw_apart : Stmt := topS 21
abbrev s_hours_apart : Stmt := topS 22
abbrev s_check_starts : Stmt := topS 24
abbrev s_raw_at_work : Stmt := topS 17
abbrev s_at_work : Stmt := topS 25
abbrev s_are_enough : Stmt := topS 20
abbrev s_over_hours : Stmt := topS 26
abbrev s__law_draw : Stmt := topS 29
abbrev s__law_any : Stmt := topS 30
abbrev s__law_needs : Stmt := topS 33
abbrev s__law_lots_apart : Stmt := topS 37
abbrev s__law_deep : Stmt := topS 32
abbrev s_is_lot : Stmt := topS 4
abbrev s_is_hours_apart : Stmt := topS 23
abbrev s__law_is_int : Stmt := topS 31
abbrev s__law_is_apart : Stmt := topS 39
abbrev s__law_work : Stmt := topS 34
abbrev s__law_latest : Stmt := topS 35
abbrev s_raw_starts : Stmt := topS 18
abbrev s_least_starts : Stmt := topS 19
abbrev s__law_is_right : Stmt := topS 40
abbrev s__law_no_needs : Stmt := topS 36
abbrev s__law_said : Stmt := topS 38
abbrev s__law_are_refused : Stmt := topS 41
abbrev s_law : Stmt := topS 42
def kit_NoNeeds : Str → Option Bool := fun y => List.lookup y [("NoNeeds", true), ("NoNumber", false), ("NoStarts", false)]
def kit_NoNumber : Str → Option Bool := fun y => List.lookup y [("NoNeeds", false), ("NoNumber", true), ("NoStarts", false)]
def kit_NoStarts : Str → Option Bool := fun y => List.lookup y [("NoNeeds", false), ("NoNumber", false), ("NoStarts", true)]
def kit_ValueError : Str → Option Bool := fun y => List.lookup y [("NoNeeds", true), ("NoNumber", true), ("NoStarts", true)]
def sub_FieldError : Str → Option Bool := fun y => List.lookup y [("NoNeeds", true), ("NoNumber", true), ("NoStarts", true)]
structure Hd (τ : Tb) (K : PySem.W.Frag) (mg : Str → Option Value) (base : Heap) : Prop where
  d__law_hand : DefF K mg "_law_hand" "_law_hand" s__law_hand
  d_is_integer : DefF K mg "is_integer" "is_integer" s_is_integer
  d_is_within : DefF K mg "is_within" "is_within" s_is_within
  d_are_within : DefF K mg "are_within" "are_within" s_are_within
  d_check_needs : DefF K mg "check_needs" "check_needs" s_check_needs
  d_check_length : DefF K mg "check_length" "check_length" s_check_length
  d_check_both : DefF K mg "check_both" "check_both" s_check_both
  d_raw_apart : DefF K mg "raw_apart" "raw_apart" s_raw_apart
  d_hours_apart : DefF K mg "hours_apart" "hours_apart" s_hours_apart
  d_check_starts : DefF K mg "check_starts" "check_starts" s_check_starts
  d_raw_at_work : DefF K mg "raw_at_work" "raw_at_work" s_raw_at_work
  d_at_work : DefF K mg "at_work" "at_work" s_at_work
  d_are_enough : DefF K mg "are_enough" "are_enough" s_are_enough
  d_over_hours : DefF K mg "over_hours" "over_hours" s_over_hours
  d__law_draw : DefF K mg "_law_draw" "_law_draw" s__law_draw
  d__law_any : DefF K mg "_law_any" "_law_any" s__law_any
  d__law_needs : DefF K mg "_law_needs" "_law_needs" s__law_needs
  d__law_lots_apart : DefF K mg "_law_lots_apart" "_law_lots_apart" s__law_lots_apart
  d__law_deep : DefF K mg "_law_deep" "_law_deep" s__law_deep
  d_is_lot : DefF K mg "is_lot" "is_lot" s_is_lot
  d_is_hours_apart : DefF K mg "is_hours_apart" "is_hours_apart" s_is_hours_apart
  d__law_is_int : DefF K mg "_law_is_int" "_law_is_int" s__law_is_int
  d__law_is_apart : DefF K mg "_law_is_apart" "_law_is_apart" s__law_is_apart
  d__law_work : DefF K mg "_law_work" "_law_work" s__law_work
  d__law_latest : DefF K mg "_law_latest" "_law_latest" s__law_latest
  d_raw_starts : DefF K mg "raw_starts" "raw_starts" s_raw_starts
  d_least_starts : DefF K mg "least_starts" "least_starts" s_least_starts
  d__law_is_right : DefF K mg "_law_is_right" "_law_is_right" s__law_is_right
  d__law_no_needs : DefF K mg "_law_no_needs" "_law_no_needs" s__law_no_needs
  d__law_said : DefF K mg "_law_said" "_law_said" s__law_said
  d__law_are_refused : DefL τ K mg base "_law_are_refused" "_law_are_refused" s__law_are_refused
  d_law : DefF K mg "law" "law" s_law
  i_NoNeeds : IsF K mg "NoNeeds" kit_NoNeeds
  i_NoNumber : IsF K mg "NoNumber" kit_NoNumber
  i_NoStarts : IsF K mg "NoStarts" kit_NoStarts
  i_ValueError : IsF K mg "ValueError" kit_ValueError
  y_FieldError : TryF K mg "FieldError" sub_FieldError
  z_abs : mg "abs" = none
  z_all : mg "all" = none
  z_bool : mg "bool" = none
  z_enumerate : mg "enumerate" = none
  z_int : mg "int" = none
  z_isinstance : mg "isinstance" = none
  z_len : mg "len" = none
  z_list : mg "list" = none
  z_max : mg "max" = none
  z_min : mg "min" = none
  z_range : mg "range" = none
  z_repr : mg "repr" = none
  z_set : mg "set" = none
  z_sorted : mg "sorted" = none
  z_sum : mg "sum" = none
  z_tuple : mg "tuple" = none
  z_zip : mg "zip" = none
  e_NoNeeds : ExF K mg "NoNeeds"
  e_NoNumber : ExF K mg "NoNumber"
  e_NoStarts : ExF K mg "NoStarts"
  c_MOST_HOURS : IntF mg "MOST_HOURS" 24
  c_MOST_NEED : IntF mg "MOST_NEED" 20
  c_MOST_START : IntF mg "MOST_START" 1000
abbrev N__law_hand : List Str := ["script", "cells", "cell"]
theorem sc__law_hand : FnScope N__law_hand ["script"] (defScope s__law_hand) := ⟨rfl, rfl, rfl, by decide +kernel, rfl, by decide +kernel, by decide +kernel⟩
noncomputable def l0__law_hand : Ev := (eCall fAbs (aCons (eCall fInt (aCons (eVar 2) aNil)) aNil))
noncomputable def b__law_hand : Sv := (sCons (sSet 1 (eLc false (iSeq (eSl false (eVar 0) pNo (pAt (eD (.int 63))))) (gN 2) tYesD l0__law_hand [2]))
  (sRet (eLst true (aCons (eVar 1) (aCons (eD (.int 0)) (aCons (eD (.int 0)) (aCons (eBin (oAdd false) (eD (.int 83)) (eBin (oMul false) (eD (.int 5)) (eCall fLen (aCons (eVar 1) aNil)))) (aCons (eD (.int 0)) aNil))))))))
noncomputable def g__law_hand : Fn := fnOf 3 b__law_hand
theorem bd__law_hand {P : Program} {w : World} {K : PySem.W.Frag} {mg : Str → Option Value} {base : Heap} (h : Hd τ K mg base) (f : Addr) (cdv : Value) (B : Around) (fs : List PySem.Env) (s : Shared) (H : Hp) (E : XK) (cc : Cc (cxD P w K mg base N__law_hand "_law_hand" s__law_hand f cdv B fs s H E) (wD E) 0) : DB τ (cxD P w K mg base N__law_hand "_law_hand" s__law_hand f cdv B fs s H E) (wD E) (defBody s__law_hand) b__law_hand :=
  (db_cons (ds_lc 1 false cc rfl rfl (by rfl) (di_seq (de_sl false (de_var 0) dp_no (dp_at de_int))) (blkOk_by (N := N__law_hand) (sc := defScope s__law_hand) (own := [("cell", 2)]) (by decide +kernel)) (fun _ _ _ _ _ => (dg_name 2 cc.blk.nd rfl (.inl rfl))) (fun _ _ _ _ _ => dts_nil) (fun _ _ _ _ _ => (de_callB call_abs ok_abs (by rfl) h.z_abs bb_abs (da_cons (de_callTy call_int1 ok_int (by rfl) h.z_int bb_int (da_cons (de_var 2) da_nil)) da_nil))))
  (db_one (ds_ret (de_lst true (da_cons (de_var 1) (da_cons de_int (da_cons de_int (da_cons (de_bin op_addX ok_add de_int (de_bin op_mulX' ok_mul de_int (de_callB call_lenX ok_len (by rfl) h.z_len bb_len (da_cons (de_var 1) da_nil)))) (da_cons de_int da_nil)))))))))
theorem bi__law_hand (kV doc pm : Value) (an : Option Addr) (cdv ct : Value) (us : List Value) (hl : us.length = 1) : bindArgs (PySem.W.fnOf "_law_hand" "_law_hand" (defArgs s__law_hand) (defBody s__law_hand) (defScope s__law_hand) .none kV doc pm an cdv ct) ⟨us, []⟩ = pure ((["script"] : List Str).zip us) := match us, hl with | [_], _ => rfl
theorem ok__law_hand {P : Program} {w : World} {K : PySem.W.Frag} {mg : Str → Option Value} {base : Heap} (h : Hd τ K mg base) : DefOk τ P w K mg base 1 1 "_law_hand" g__law_hand :=
  def_ok (b := b__law_hand) (N := N__law_hand) (ps := ["script"]) (st := s__law_hand) h.d__law_hand sc__law_hand rfl bi__law_hand (bd__law_hand h)
abbrev N_is_integer : List Str := ["thing"]
theorem sc_is_integer : FnScope N_is_integer ["thing"] (defScope s_is_integer) := ⟨rfl, rfl, rfl, by decide +kernel, rfl, by decide +kernel, by decide +kernel⟩
noncomputable def b_is_integer : Sv := (sRet (eAnd (eCall fIsi (aCons (eVar 0) (aCons (eTy .int) aNil))) (eNot (eCall fIsi (aCons (eVar 0) (aCons (eTy .bool) aNil))))))
noncomputable def g_is_integer : Fn := fnOf 1 b_is_integer
theorem bd_is_integer {P : Program} {w : World} {K : PySem.W.Frag} {mg : Str → Option Value} {base : Heap} (h : Hd τ K mg base) (f : Addr) (cdv : Value) (B : Around) (fs : List PySem.Env) (s : Shared) (H : Hp) (E : XK) (cc : Cc (cxD P w K mg base N_is_integer "is_integer" s_is_integer f cdv B fs s H E) (wD E) 0) : DB τ (cxD P w K mg base N_is_integer "is_integer" s_is_integer f cdv B fs s H E) (wD E) (defBody s_is_integer) b_is_integer :=
  (db_one (ds_ret (de_and (de_callB call_isiX ok_isi (by rfl) h.z_isinstance bb_isinstance (da_cons (de_var 0) (da_cons (de_ty (T := .int) (by rfl) h.z_int bb_int) da_nil))) (de_one (de_not (de_callB call_isiX ok_isi (by rfl) h.z_isinstance bb_isinstance (da_cons (de_var 0) (da_cons (de_ty (T := .bool) (by rfl) h.z_bool bb_bool) da_nil))))))))
theorem bi_is_integer (kV doc pm : Value) (an : Option Addr) (cdv ct : Value) (us : List Value) (hl : us.length = 1) : bindArgs (PySem.W.fnOf "is_integer" "is_integer" (defArgs s_is_integer) (defBody s_is_integer) (defScope s_is_integer) .none kV doc pm an cdv ct) ⟨us, []⟩ = pure ((["thing"] : List Str).zip us) := match us, hl with | [_], _ => rfl
theorem ok_is_integer {P : Program} {w : World} {K : PySem.W.Frag} {mg : Str → Option Value} {base : Heap} (h : Hd τ K mg base) : DefOk τ P w K mg base 1 1 "is_integer" g_is_integer :=
  def_ok (b := b_is_integer) (N := N_is_integer) (ps := ["thing"]) (st := s_is_integer) h.d_is_integer sc_is_integer rfl bi_is_integer (bd_is_integer h)
abbrev N_is_within : List Str := ["thing", "least", "most"]
theorem sc_is_within : FnScope N_is_within ["thing", "least", "most"] (defScope s_is_within) := ⟨rfl, rfl, rfl, by decide +kernel, rfl, by decide +kernel, by decide +kernel⟩
noncomputable def b_is_within : Sv := (sRet (eAnd (eCallN 1 g_is_integer (aCons (eVar 0) aNil)) (eChain oLe oLe (eVar 1) (eVar 0) (eVar 2))))
noncomputable def g_is_within : Fn := fnOf 3 b_is_within
theorem bd_is_within {P : Program} {w : World} {K : PySem.W.Frag} {mg : Str → Option Value} {base : Heap} (h : Hd τ K mg base) (f : Addr) (cdv : Value) (B : Around) (fs : List PySem.Env) (s : Shared) (H : Hp) (E : XK) (cc : Cc (cxD P w K mg base N_is_within "is_within" s_is_within f cdv B fs s H E) (wD E) 1) : DB τ (cxD P w K mg base N_is_within "is_within" s_is_within f cdv B fs s H E) (wD E) (defBody s_is_within) b_is_within :=
  (db_one (ds_ret (de_and (de_callD (ok_is_integer h) cc (by decide) (by rfl) (da_cons (de_var 0) da_nil)) (de_one (de_chain (op_leX cc.hu) ok_le (op_leX cc.hu) ok_le (de_var 1) (de_var 0) (de_var 2))))))
theorem bi_is_within (kV doc pm : Value) (an : Option Addr) (cdv ct : Value) (us : List Value) (hl : us.length = 3) : bindArgs (PySem.W.fnOf "is_within" "is_within" (defArgs s_is_within) (defBody s_is_within) (defScope s_is_within) .none kV doc pm an cdv ct) ⟨us, []⟩ = pure ((["thing", "least", "most"] : List Str).zip us) := match us, hl with | [_, _, _], _ => rfl
theorem ok_is_within {P : Program} {w : World} {K : PySem.W.Frag} {mg : Str → Option Value} {base : Heap} (h : Hd τ K mg base) : DefOk τ P w K mg base 2 3 "is_within" g_is_within :=
  def_ok (b := b_is_within) (N := N_is_within) (ps := ["thing", "least", "most"]) (st := s_is_within) h.d_is_within sc_is_within rfl bi_is_within (bd_is_within h)
abbrev N_are_within : List Str := ["thing", "least", "most", "one"]
theorem sc_are_within : FnScope N_are_within ["thing", "least", "most"] (defScope s_are_within) := ⟨rfl, rfl, rfl, by decide +kernel, rfl, by decide +kernel, by decide +kernel⟩
noncomputable def l0_are_within : Ev := (eCallN 3 g_is_within (aCons (eVar 3) (aCons (eVar 1) (aCons (eVar 2) aNil))))
noncomputable def b_are_within : Sv := (sRet (eAnd (eCall fIsi (aCons (eVar 0) (aCons (eTy .tup) aNil))) (eCall fAll (aCons (eLc false (iSeq (eVar 0)) (gN 3) tYesD l0_are_within [3]) aNil))))
noncomputable def g_are_within : Fn := fnOf 4 b_are_within
theorem bd_are_within {P : Program} {w : World} {K : PySem.W.Frag} {mg : Str → Option Value} {base : Heap} (h : Hd τ K mg base) (f : Addr) (cdv : Value) (B : Around) (fs : List PySem.Env) (s : Shared) (H : Hp) (E : XK) (cc : Cc (cxD P w K mg base N_are_within "are_within" s_are_within f cdv B fs s H E) (wD E) 2) : DB τ (cxD P w K mg base N_are_within "are_within" s_are_within f cdv B fs s H E) (wD E) (defBody s_are_within) b_are_within :=
  (db_one (ds_ret (de_and (de_callB call_isiX ok_isi (by rfl) h.z_isinstance bb_isinstance (da_cons (de_var 0) (da_cons (de_ty (T := .tup) (by rfl) h.z_tuple bb_tuple) da_nil))) (de_one (de_callB (call_allX cc.calm) ok_allF (by rfl) h.z_all bb_all (da_cons (de_lc false cc (di_seq (de_var 0)) (blkOk_by (N := N_are_within) (sc := defScope s_are_within) (own := [("one", 3)]) (by decide +kernel)) (fun _ _ _ _ _ => (dg_name 3 cc.blk.nd rfl (.inl rfl))) (fun _ _ _ _ _ => dts_nil) (fun _ _ _ _ _ => (de_callD (ok_is_within h) cc.blk (by decide) (by rfl) (da_cons (de_var 3) (da_cons (de_var 1) (da_cons (de_var 2) da_nil)))))) da_nil))))))
theorem bi_are_within (kV doc pm : Value) (an : Option Addr) (cdv ct : Value) (us : List Value) (hl : us.length = 3) : bindArgs (PySem.W.fnOf "are_within" "are_within" (defArgs s_are_within) (defBody s_are_within) (defScope s_are_within) .none kV doc pm an cdv ct) ⟨us, []⟩ = pure ((["thing", "least", "most"] : List Str).zip us) := match us, hl with | [_, _, _], _ => rfl
theorem ok_are_within {P : Program} {w : World} {K : PySem.W.Frag} {mg : Str → Option Value} {base : Heap} (h : Hd τ K mg base) : DefOk τ P w K mg base 3 3 "are_within" g_are_within :=
  def_ok (b := b_are_within) (N := N_are_within) (ps := ["thing", "least", "most"]) (st := s_are_within) h.d_are_within sc_are_within rfl bi_are_within (bd_are_within h)
abbrev N_check_needs : List Str := ["needs"]
theorem sc_check_needs : FnScope N_check_needs ["needs"] (defScope s_check_needs) := ⟨rfl, rfl, rfl, by decide +kernel, rfl, by decide +kernel, by decide +kernel⟩
noncomputable def b_check_needs : Sv := (sIf (tOr (tNot (tOf (eCallN 3 g_are_within (aCons (eVar 0) (aCons (eD (.int 0)) (aCons (eD (.int 20)) aNil)))))) (tNot (tOf (eChain oLe oLe (eD (.int 1)) (eCall fLen (aCons (eVar 0) aNil)) (eD (.int 24))))))
  (sRaise "NoNeeds")
  sNil)
noncomputable def g_check_needs : Fn := fnOf 1 b_check_needs
theorem bd_check_needs {P : Program} {w : World} {K : PySem.W.Frag} {mg : Str → Option Value} {base : Heap} (h : Hd τ K mg base) (f : Addr) (cdv : Value) (B : Around) (fs : List PySem.Env) (s : Shared) (H : Hp) (E : XK) (cc : Cc (cxD P w K mg base N_check_needs "check_needs" s_check_needs f cdv B fs s H E) (wD E) 3) : DB τ (cxD P w K mg base N_check_needs "check_needs" s_check_needs f cdv B fs s H E) (wD E) (defBody s_check_needs) b_check_needs :=
  (db_one (ds_if (DW.t (dw_or (dt_not (dt_val (de_callD (ok_are_within h) cc (by decide) (by rfl) (da_cons (de_var 0) (da_cons de_int (da_cons (de_conI h.c_MOST_NEED (by rfl)) da_nil)))))) (dw_or1 (dt_not (dt_chain (op_leX cc.hu) ok_le (op_leX cc.hu) ok_le de_int (de_callB call_lenX ok_len (by rfl) h.z_len bb_len (da_cons (de_var 0) da_nil)) (de_conI h.c_MOST_HOURS (by rfl)))))))
  (db_one (ds_raise0 cc h.e_NoNeeds (by rfl)))
  db_nil))
theorem bi_check_needs (kV doc pm : Value) (an : Option Addr) (cdv ct : Value) (us : List Value) (hl : us.length = 1) : bindArgs (PySem.W.fnOf "check_needs" "check_needs" (defArgs s_check_needs) (defBody s_check_needs) (defScope s_check_needs) .none kV doc pm an cdv ct) ⟨us, []⟩ = pure ((["needs"] : List Str).zip us) := match us, hl with | [_], _ => rfl
theorem ok_check_needs {P : Program} {w : World} {K : PySem.W.Frag} {mg : Str → Option Value} {base : Heap} (h : Hd τ K mg base) : DefOk τ P w K mg base 4 1 "check_needs" g_check_needs :=
  def_ok (b := b_check_needs) (N := N_check_needs) (ps := ["needs"]) (st := s_check_needs) h.d_check_needs sc_check_needs rfl bi_check_needs (bd_check_needs h)
abbrev N_check_length : List Str := ["length"]
theorem sc_check_length : FnScope N_check_length ["length"] (defScope s_check_length) := ⟨rfl, rfl, rfl, by decide +kernel, rfl, by decide +kernel, by decide +kernel⟩
noncomputable def b_check_length : Sv := (sIf (tNot (tOf (eCallN 3 g_is_within (aCons (eVar 0) (aCons (eD (.int 1)) (aCons (eD (.int 24)) aNil))))))
  (sRaise "NoNumber")
  sNil)
noncomputable def g_check_length : Fn := fnOf 1 b_check_length
theorem bd_check_length {P : Program} {w : World} {K : PySem.W.Frag} {mg : Str → Option Value} {base : Heap} (h : Hd τ K mg base) (f : Addr) (cdv : Value) (B : Around) (fs : List PySem.Env) (s : Shared) (H : Hp) (E : XK) (cc : Cc (cxD P w K mg base N_check_length "check_length" s_check_length f cdv B fs s H E) (wD E) 2) : DB τ (cxD P w K mg base N_check_length "check_length" s_check_length f cdv B fs s H E) (wD E) (defBody s_check_length) b_check_length :=
  (db_one (ds_if (dt_not (dt_val (de_callD (ok_is_within h) cc (by decide) (by rfl) (da_cons (de_var 0) (da_cons de_int (da_cons (de_conI h.c_MOST_HOURS (by rfl)) da_nil))))))
  (db_one (ds_raise0 cc h.e_NoNumber (by rfl)))
  db_nil))
theorem bi_check_length (kV doc pm : Value) (an : Option Addr) (cdv ct : Value) (us : List Value) (hl : us.length = 1) : bindArgs (PySem.W.fnOf "check_length" "check_length" (defArgs s_check_length) (defBody s_check_length) (defScope s_check_length) .none kV doc pm an cdv ct) ⟨us, []⟩ = pure ((["length"] : List Str).zip us) := match us, hl with | [_], _ => rfl
theorem ok_check_length {P : Program} {w : World} {K : PySem.W.Frag} {mg : Str → Option Value} {base : Heap} (h : Hd τ K mg base) : DefOk τ P w K mg base 3 1 "check_length" g_check_length :=
  def_ok (b := b_check_length) (N := N_check_length) (ps := ["length"]) (st := s_check_length) h.d_check_length sc_check_length rfl bi_check_length (bd_check_length h)
abbrev N_check_both : List Str := ["needs", "length"]
theorem sc_check_both : FnScope N_check_both ["needs", "length"] (defScope s_check_both) := ⟨rfl, rfl, rfl, by decide +kernel, rfl, by decide +kernel, by decide +kernel⟩
noncomputable def b_check_both : Sv := (sCons (sExpr (eCallN 1 g_check_needs (aCons (eVar 0) aNil)))
  (sExpr (eCallN 1 g_check_length (aCons (eVar 1) aNil))))
noncomputable def g_check_both : Fn := fnOf 2 b_check_both
theorem bd_check_both {P : Program} {w : World} {K : PySem.W.Frag} {mg : Str → Option Value} {base : Heap} (h : Hd τ K mg base) (f : Addr) (cdv : Value) (B : Around) (fs : List PySem.Env) (s : Shared) (H : Hp) (E : XK) (cc : Cc (cxD P w K mg base N_check_both "check_both" s_check_both f cdv B fs s H E) (wD E) 4) : DB τ (cxD P w K mg base N_check_both "check_both" s_check_both f cdv B fs s H E) (wD E) (defBody s_check_both) b_check_both :=
  (db_cons (ds_expr (de_callD (ok_check_needs h) cc (by decide) (by rfl) (da_cons (de_var 0) da_nil)))
  (db_one (ds_expr (de_callD (ok_check_length h) cc (by decide) (by rfl) (da_cons (de_var 1) da_nil)))))
theorem bi_check_both (kV doc pm : Value) (an : Option Addr) (cdv ct : Value) (us : List Value) (hl : us.length = 2) : bindArgs (PySem.W.fnOf "check_both" "check_both" (defArgs s_check_both) (defBody s_check_both) (defScope s_check_both) .none kV doc pm an cdv ct) ⟨us, []⟩ = pure ((["needs", "length"] : List Str).zip us) := match us, hl with | [_, _], _ => rfl
theorem ok_check_both {P : Program} {w : World} {K : PySem.W.Frag} {mg : Str → Option Value} {base : Heap} (h : Hd τ K mg base) : DefOk τ P w K mg base 5 2 "check_both" g_check_both :=
  def_ok (b := b_check_both) (N := N_check_both) (ps := ["needs", "length"]) (st := s_check_both) h.d_check_both sc_check_both rfl bi_check_both (bd_check_both h)
abbrev N_raw_apart : List Str := ["needs", "length", "best", "hour", "total", "lot", "some", "most", "pair"]
theorem sc_raw_apart : FnScope N_raw_apart ["needs", "length"] (defScope s_raw_apart) := ⟨rfl, rfl, rfl, by decide +kernel, rfl, by decide +kernel, by decide +kernel⟩
noncomputable def l0_raw_apart : Ev := (eBin oIx (eVar 8) (eD (.int 0)))
noncomputable def l1_raw_apart : Ev := (eBin oIx (eVar 8) (eD (.int 1)))
noncomputable def l2_raw_apart : Tv := (tOf (eBin oEq (eBin oIx (eVar 8) (eD (.int 0))) (eVar 7)))
noncomputable def l3_raw_apart : Sv := (sCons (sAsg (gT [(gN 4), (gN 5)]) (eBin oIx (eVar 2) (eBin (oAdd false) (eVar 3) (eVar 1))))
  (sCons (sSet 6 (eLst false (aCons (eBin oIx (eVar 2) (eBin (oAdd false) (eVar 3) (eD (.int 1)))) (aCons (eTup (aCons (eBin (oAdd false) (eBin oIx (eVar 0) (eVar 3)) (eVar 4)) (aCons (eBin (oAdd false) (eTup (aCons (eVar 3) aNil)) (eVar 5)) aNil))) aNil))))
  (sCons (sSet 7 (eCall fMax1 (aCons (eLc false (iSeq (eVar 6)) (gN 8) tYesD l0_raw_apart [8]) aNil)))
  (sPut (eVar 2) (eVar 3) (eTup (aCons (eVar 7) (aCons (eCall fMin1 (aCons (eLc false (iSeq (eVar 6)) (gN 8) l2_raw_apart l1_raw_apart [8]) aNil)) aNil)))))))
noncomputable def b_raw_apart : Sv := (sCons (sSet 2 (eBin (oMul true) (eLst false (aCons (eTup (aCons (eD (.int 0)) (aCons (eTup aNil) aNil))) aNil)) (eBin (oAdd false) (eBin (oAdd false) (eCall fLen (aCons (eVar 0) aNil)) (eVar 1)) (eD (.int 1)))))
  (sCons (sFor (iRangeC (aCons (eBin oSub (eCall fLen (aCons (eVar 0) aNil)) (eD (.int 1))) (aCons (eUn oNeg (eD (.int 1))) (aCons (eUn oNeg (eD (.int 1))) aNil)))) (gN 3) l3_raw_apart)
  (sRet (eBin oIx (eBin oIx (eVar 2) (eD (.int 0))) (eD (.int 1))))))
noncomputable def g_raw_apart : Fn := fnOf 9 b_raw_apart
theorem bd_raw_apart {P : Program} {w : World} {K : PySem.W.Frag} {mg : Str → Option Value} {base : Heap} (h : Hd τ K mg base) (f : Addr) (cdv : Value) (B : Around) (fs : List PySem.Env) (s : Shared) (H : Hp) (E : XK) (cc : Cc (cxD P w K mg base N_raw_apart "raw_apart" s_raw_apart f cdv B fs s H E) (wD E) 0) : DB τ (cxD P w K mg base N_raw_apart "raw_apart" s_raw_apart f cdv B fs s H E) (wD E) (defBody s_raw_apart) b_raw_apart :=
  (db_cons (ds_set 2 cc.nd rfl (.inl rfl) (de_bin op_mulX' ok_mul (de_lst false (da_cons (de_tup (da_cons de_int (da_cons (de_tup da_nil) da_nil))) da_nil)) (de_bin op_addX ok_add (de_bin op_addX ok_add (de_callB call_lenX ok_len (by rfl) h.z_len bb_len (da_cons (de_var 0) da_nil)) (de_var 1)) de_int)))
  (db_cons (ds_for cc (di_range3 (by rfl) h.z_range (da_cons (de_bin op_sub ok_sub (de_callB call_lenX ok_len (by rfl) h.z_len bb_len (da_cons (de_var 0) da_nil)) de_int) (da_cons (de_un un_neg ok_neg de_int) (da_cons (de_un un_neg ok_neg de_int) da_nil)))) (dg_name 3 cc.nd rfl (.inl rfl))
  (db_cons (ds_asg (de_ix (j := 0) (de_var 2) (de_bin op_addX ok_add (de_var 3) (de_var 1))) (dg_tup cc.calm (dgs_cons (dg_name 4 cc.nd rfl (.inl rfl)) (dgs_cons (dg_name 5 cc.nd rfl (.inl rfl)) dgs_nil))))
  (db_cons (ds_set 6 cc.nd rfl (.inl rfl) (de_lst false (da_cons (de_ix (j := 0) (de_var 2) (de_bin op_addX ok_add (de_var 3) de_int)) (da_cons (de_tup (da_cons (de_bin op_addX ok_add (de_ix (j := 0) (de_var 0) (de_var 3)) (de_var 4)) (da_cons (de_bin op_addX ok_add (de_tup (da_cons (de_var 3) da_nil)) (de_var 5)) da_nil))) da_nil))))
  (db_cons (ds_set 7 cc.nd rfl (.inr rfl) (de_callB (call_max1X cc.calm cc.hu) ok_max1 (by rfl) h.z_max bb_max (da_cons (de_lc false cc (di_seq (de_var 6)) (blkOk_by (N := N_raw_apart) (sc := defScope s_raw_apart) (own := [("pair", 8)]) (by decide +kernel)) (fun _ _ _ _ _ => (dg_name 8 cc.blk.nd rfl (.inl rfl))) (fun _ _ _ _ _ => dts_nil) (fun _ _ _ _ _ => (de_ix (j := 0) (de_var 8) de_int))) da_nil)))
  (db_one (ds_put (de_var 2) (de_var 3) (de_tup (da_cons (de_var 7) (da_cons (de_callB (call_min1X cc.calm cc.hu) ok_min1 (by rfl) h.z_min bb_min (da_cons (de_lc false cc (di_seq (de_var 6)) (blkOk_by (N := N_raw_apart) (sc := defScope s_raw_apart) (own := [("pair", 8)]) (by decide +kernel)) (fun _ _ _ _ _ => (dg_name 8 cc.blk.nd rfl (.inl rfl))) (fun _ _ _ _ _ => (dts_one (dt_cmp (op_eqX cc.blk.hu) ok_eq (de_ix (j := 0) (de_var 8) de_int) (de_var 7) (nomark _)))) (fun _ _ _ _ _ => (de_ix (j := 0) (de_var 8) de_int))) da_nil)) da_nil)))))))))
  (db_one (ds_ret (de_ix (j := 0) (de_ix (j := 0) (de_var 2) de_int) de_int)))))
theorem bi_raw_apart (kV doc pm : Value) (an : Option Addr) (cdv ct : Value) (us : List Value) (hl : us.length = 2) : bindArgs (PySem.W.fnOf "raw_apart" "raw_apart" (defArgs s_raw_apart) (defBody s_raw_apart) (defScope s_raw_apart) .none kV doc pm an cdv ct) ⟨us, []⟩ = pure ((["needs", "length"] : List Str).zip us) := match us, hl with | [_, _], _ => rfl
theorem ok_raw_apart {P : Program} {w : World} {K : PySem.W.Frag} {mg : Str → Option Value} {base : Heap} (h : Hd τ K mg base) : DefOk τ P w K mg base 1 2 "raw_apart" g_raw_apart :=
  def_ok (b := b_raw_apart) (N := N_raw_apart) (ps := ["needs", "length"]) (st := s_raw_apart) h.d_raw_apart sc_raw_apart rfl bi_raw_apart (bd_raw_apart h)
abbrev N_hours_apart : List Str := ["needs", "length"]
theorem sc_hours_apart : FnScope N_hours_apart ["needs", "length"] (defScope s_hours_apart) := ⟨rfl, rfl, rfl, by decide +kernel, rfl, by decide +kernel, by decide +kernel⟩
noncomputable def b_hours_apart : Sv := (sCons (sExpr (eCallN 2 g_check_both (aCons (eVar 0) (aCons (eVar 1) aNil))))
  (sRet (eCallN 2 g_raw_apart (aCons (eVar 0) (aCons (eVar 1) aNil)))))
noncomputable def g_hours_apart : Fn := fnOf 2 b_hours_apart
theorem bd_hours_apart {P : Program} {w : World} {K : PySem.W.Frag} {mg : Str → Option Value} {base : Heap} (h : Hd τ K mg base) (f : Addr) (cdv : Value) (B : Around) (fs : List PySem.Env) (s : Shared) (H : Hp) (E : XK) (cc : Cc (cxD P w K mg base N_hours_apart "hours_apart" s_hours_apart f cdv B fs s H E) (wD E) 5) : DB τ (cxD P w K mg base N_hours_apart "hours_apart" s_hours_apart f cdv B fs s H E) (wD E) (defBody s_hours_apart) b_hours_apart :=
  (db_cons (ds_expr (de_callD (ok_check_both h) cc (by decide) (by rfl) (da_cons (de_var 0) (da_cons (de_var 1) da_nil))))
  (db_one (ds_ret (de_callD (ok_raw_apart h) cc (by decide) (by rfl) (da_cons (de_var 0) (da_cons (de_var 1) da_nil))))))
theorem bi_hours_apart (kV doc pm : Value) (an : Option Addr) (cdv ct : Value) (us : List Value) (hl : us.length = 2) : bindArgs (PySem.W.fnOf "hours_apart" "hours_apart" (defArgs s_hours_apart) (defBody s_hours_apart) (defScope s_hours_apart) .none kV doc pm an cdv ct) ⟨us, []⟩ = pure ((["needs", "length"] : List Str).zip us) := match us, hl with | [_, _], _ => rfl
theorem ok_hours_apart {P : Program} {w : World} {K : PySem.W.Frag} {mg : Str → Option Value} {base : Heap} (h : Hd τ K mg base) : DefOk τ P w K mg base 6 2 "hours_apart" g_hours_apart :=
  def_ok (b := b_hours_apart) (N := N_hours_apart) (ps := ["needs", "length"]) (st := s_hours_apart) h.d_hours_apart sc_hours_apart rfl bi_hours_apart (bd_hours_apart h)
abbrev N_check_starts : List Str := ["starts"]
theorem sc_check_starts : FnScope N_check_starts ["starts"] (defScope s_check_starts) := ⟨rfl, rfl, rfl, by decide +kernel, rfl, by decide +kernel, by decide +kernel⟩
noncomputable def b_check_starts : Sv := (sIf (tOr (tNot (tOf (eCallN 3 g_are_within (aCons (eVar 0) (aCons (eD (.int 0)) (aCons (eD (.int 1000)) aNil)))))) (tNot (tOf (eChain oLe oLe (eD (.int 1)) (eCall fLen (aCons (eVar 0) aNil)) (eD (.int 24))))))
  (sRaise "NoStarts")
  sNil)
noncomputable def g_check_starts : Fn := fnOf 1 b_check_starts
theorem bd_check_starts {P : Program} {w : World} {K : PySem.W.Frag} {mg : Str → Option Value} {base : Heap} (h : Hd τ K mg base) (f : Addr) (cdv : Value) (B : Around) (fs : List PySem.Env) (s : Shared) (H : Hp) (E : XK) (cc : Cc (cxD P w K mg base N_check_starts "check_starts" s_check_starts f cdv B fs s H E) (wD E) 3) : DB τ (cxD P w K mg base N_check_starts "check_starts" s_check_starts f cdv B fs s H E) (wD E) (defBody s_check_starts) b_check_starts :=
  (db_one (ds_if (DW.t (dw_or (dt_not (dt_val (de_callD (ok_are_within h) cc (by decide) (by rfl) (da_cons (de_var 0) (da_cons de_int (da_cons (de_conI h.c_MOST_START (by rfl)) da_nil)))))) (dw_or1 (dt_not (dt_chain (op_leX cc.hu) ok_le (op_leX cc.hu) ok_le de_int (de_callB call_lenX ok_len (by rfl) h.z_len bb_len (da_cons (de_var 0) da_nil)) (de_conI h.c_MOST_HOURS (by rfl)))))))
  (db_one (ds_raise0 cc h.e_NoStarts (by rfl)))
  db_nil))
theorem bi_check_starts (kV doc pm : Value) (an : Option Addr) (cdv ct : Value) (us : List Value) (hl : us.length = 1) : bindArgs (PySem.W.fnOf "check_starts" "check_starts" (defArgs s_check_starts) (defBody s_check_starts) (defScope s_check_starts) .none kV doc pm an cdv ct) ⟨us, []⟩ = pure ((["starts"] : List Str).zip us) := match us, hl with | [_], _ => rfl
theorem ok_check_starts {P : Program} {w : World} {K : PySem.W.Frag} {mg : Str → Option Value} {base : Heap} (h : Hd τ K mg base) : DefOk τ P w K mg base 4 1 "check_starts" g_check_starts :=
  def_ok (b := b_check_starts) (N := N_check_starts) (ps := ["starts"]) (st := s_check_starts) h.d_check_starts sc_check_starts rfl bi_check_starts (bd_check_starts h)
abbrev N_raw_at_work : List Str := ["starts", "length", "hour"]
theorem sc_raw_at_work : FnScope N_raw_at_work ["starts", "length"] (defScope s_raw_at_work) := ⟨rfl, rfl, rfl, by decide +kernel, rfl, by decide +kernel, by decide +kernel⟩
noncomputable def l0_raw_at_work : Ev := (eCall fSumX (aCons (eSl false (eVar 0) (pAt (eCall fMax2 (aCons (eD (.int 0)) (aCons (eBin (oAdd false) (eBin oSub (eVar 2) (eVar 1)) (eD (.int 1))) aNil)))) (pAt (eBin (oAdd false) (eVar 2) (eD (.int 1))))) aNil))
noncomputable def b_raw_at_work : Sv := (sRet (eCall fTuple (aCons (eLc false (iRange (aCons (eCall fLen (aCons (eVar 0) aNil)) aNil)) (gN 2) tYesD l0_raw_at_work [2]) aNil)))
noncomputable def g_raw_at_work : Fn := fnOf 3 b_raw_at_work
theorem bd_raw_at_work {P : Program} {w : World} {K : PySem.W.Frag} {mg : Str → Option Value} {base : Heap} (h : Hd τ K mg base) (f : Addr) (cdv : Value) (B : Around) (fs : List PySem.Env) (s : Shared) (H : Hp) (E : XK) (cc : Cc (cxD P w K mg base N_raw_at_work "raw_at_work" s_raw_at_work f cdv B fs s H E) (wD E) 0) : DB τ (cxD P w K mg base N_raw_at_work "raw_at_work" s_raw_at_work f cdv B fs s H E) (wD E) (defBody s_raw_at_work) b_raw_at_work :=
  (db_one (ds_ret (de_callTy call_tuple_of ok_tuple (by rfl) h.z_tuple bb_tuple (da_cons (de_lc false cc (di_range1 (by rfl) h.z_range (da_cons (de_callB call_lenX ok_len (by rfl) h.z_len bb_len (da_cons (de_var 0) da_nil)) da_nil)) (blkOk_by (N := N_raw_at_work) (sc := defScope s_raw_at_work) (own := [("hour", 2)]) (by decide +kernel)) (fun _ _ _ _ _ => (dg_name 2 cc.blk.nd rfl (.inl rfl))) (fun _ _ _ _ _ => dts_nil) (fun _ _ _ _ _ => (de_callB (call_sumX cc.blk.calm) ok_sumX (by rfl) h.z_sum bb_sum (da_cons (de_sl false (de_var 0) (dp_at (de_callB (call_max2 cc.blk.calm) ok_max2 (by rfl) h.z_max bb_max (da_cons de_int (da_cons (de_bin op_addX ok_add (de_bin op_sub ok_sub (de_var 2) (de_var 1)) de_int) da_nil)))) (dp_at (de_bin op_addX ok_add (de_var 2) de_int))) da_nil)))) da_nil))))
theorem bi_raw_at_work (kV doc pm : Value) (an : Option Addr) (cdv ct : Value) (us : List Value) (hl : us.length = 2) : bindArgs (PySem.W.fnOf "raw_at_work" "raw_at_work" (defArgs s_raw_at_work) (defBody s_raw_at_work) (defScope s_raw_at_work) .none kV doc pm an cdv ct) ⟨us, []⟩ = pure ((["starts", "length"] : List Str).zip us) := match us, hl with | [_, _], _ => rfl
theorem ok_raw_at_work {P : Program} {w : World} {K : PySem.W.Frag} {mg : Str → Option Value} {base : Heap} (h : Hd τ K mg base) : DefOk τ P w K mg base 1 2 "raw_at_work" g_raw_at_work :=
  def_ok (b := b_raw_at_work) (N := N_raw_at_work) (ps := ["starts", "length"]) (st := s_raw_at_work) h.d_raw_at_work sc_raw_at_work rfl bi_raw_at_work (bd_raw_at_work h)
abbrev N_at_work : List Str := ["starts", "length"]
theorem sc_at_work : FnScope N_at_work ["starts", "length"] (defScope s_at_work) := ⟨rfl, rfl, rfl, by decide +kernel, rfl, by decide +kernel, by decide +kernel⟩
noncomputable def b_at_work : Sv := (sCons (sExpr (eCallN 1 g_check_starts (aCons (eVar 0) aNil)))
  (sCons (sExpr (eCallN 1 g_check_length (aCons (eVar 1) aNil)))
  (sRet (eCallN 2 g_raw_at_work (aCons (eVar 0) (aCons (eVar 1) aNil))))))
noncomputable def g_at_work : Fn := fnOf 2 b_at_work
theorem bd_at_work {P : Program} {w : World} {K : PySem.W.Frag} {mg : Str → Option Value} {base : Heap} (h : Hd τ K mg base) (f : Addr) (cdv : Value) (B : Around) (fs : List PySem.Env) (s : Shared) (H : Hp) (E : XK) (cc : Cc (cxD P w K mg base N_at_work "at_work" s_at_work f cdv B fs s H E) (wD E) 4) : DB τ (cxD P w K mg base N_at_work "at_work" s_at_work f cdv B fs s H E) (wD E) (defBody s_at_work) b_at_work :=
  (db_cons (ds_expr (de_callD (ok_check_starts h) cc (by decide) (by rfl) (da_cons (de_var 0) da_nil)))
  (db_cons (ds_expr (de_callD (ok_check_length h) cc (by decide) (by rfl) (da_cons (de_var 1) da_nil)))
  (db_one (ds_ret (de_callD (ok_raw_at_work h) cc (by decide) (by rfl) (da_cons (de_var 0) (da_cons (de_var 1) da_nil)))))))
theorem bi_at_work (kV doc pm : Value) (an : Option Addr) (cdv ct : Value) (us : List Value) (hl : us.length = 2) : bindArgs (PySem.W.fnOf "at_work" "at_work" (defArgs s_at_work) (defBody s_at_work) (defScope s_at_work) .none kV doc pm an cdv ct) ⟨us, []⟩ = pure ((["starts", "length"] : List Str).zip us) := match us, hl with | [_, _], _ => rfl
theorem ok_at_work {P : Program} {w : World} {K : PySem.W.Frag} {mg : Str → Option Value} {base : Heap} (h : Hd τ K mg base) : DefOk τ P w K mg base 5 2 "at_work" g_at_work :=
  def_ok (b := b_at_work) (N := N_at_work) (ps := ["starts", "length"]) (st := s_at_work) h.d_at_work sc_at_work rfl bi_at_work (bd_at_work h)
abbrev N_are_enough : List Str := ["needs", "starts", "length", "many", "need"]
theorem sc_are_enough : FnScope N_are_enough ["needs", "starts", "length"] (defScope s_are_enough) := ⟨rfl, rfl, rfl, by decide +kernel, rfl, by decide +kernel, by decide +kernel⟩
noncomputable def l0_are_enough : Ev := (eBin oGe (eVar 3) (eVar 4))
noncomputable def b_are_enough : Sv := (sRet (eCall fAll (aCons (eLc false (iZipX (aCons (eCallN 2 g_raw_at_work (aCons (eVar 1) (aCons (eVar 2) aNil))) (aCons (eVar 0) aNil))) (gT [(gN 3), (gN 4)]) tYesD l0_are_enough [3, 4]) aNil)))
noncomputable def g_are_enough : Fn := fnOf 5 b_are_enough
theorem bd_are_enough {P : Program} {w : World} {K : PySem.W.Frag} {mg : Str → Option Value} {base : Heap} (h : Hd τ K mg base) (f : Addr) (cdv : Value) (B : Around) (fs : List PySem.Env) (s : Shared) (H : Hp) (E : XK) (cc : Cc (cxD P w K mg base N_are_enough "are_enough" s_are_enough f cdv B fs s H E) (wD E) 1) : DB τ (cxD P w K mg base N_are_enough "are_enough" s_are_enough f cdv B fs s H E) (wD E) (defBody s_are_enough) b_are_enough :=
  (db_one (ds_ret (de_callB (call_allX cc.calm) ok_allF (by rfl) h.z_all bb_all (da_cons (de_lc false cc (di_zipX (by rfl) h.z_zip (da_cons (de_callD (ok_raw_at_work h) cc (by decide) (by rfl) (da_cons (de_var 1) (da_cons (de_var 2) da_nil))) (da_cons (de_var 0) da_nil))) (blkOk_by (N := N_are_enough) (sc := defScope s_are_enough) (own := [("many", 3), ("need", 4)]) (by decide +kernel)) (fun _ _ _ _ _ => (dg_tup cc.blk.calm (dgs_cons (dg_name 3 cc.blk.nd rfl (.inl rfl)) (dgs_cons (dg_name 4 cc.blk.nd rfl (.inl rfl)) dgs_nil)))) (fun _ _ _ _ _ => dts_nil) (fun _ _ _ _ _ => (de_cmp (op_geX cc.blk.hu) ok_ge (de_var 3) (de_var 4) (nomark _)))) da_nil))))
theorem bi_are_enough (kV doc pm : Value) (an : Option Addr) (cdv ct : Value) (us : List Value) (hl : us.length = 3) : bindArgs (PySem.W.fnOf "are_enough" "are_enough" (defArgs s_are_enough) (defBody s_are_enough) (defScope s_are_enough) .none kV doc pm an cdv ct) ⟨us, []⟩ = pure ((["needs", "starts", "length"] : List Str).zip us) := match us, hl with | [_, _, _], _ => rfl
theorem ok_are_enough {P : Program} {w : World} {K : PySem.W.Frag} {mg : Str → Option Value} {base : Heap} (h : Hd τ K mg base) : DefOk τ P w K mg base 2 3 "are_enough" g_are_enough :=
  def_ok (b := b_are_enough) (N := N_are_enough) (ps := ["needs", "starts", "length"]) (st := s_are_enough) h.d_are_enough sc_are_enough rfl bi_are_enough (bd_are_enough h)
abbrev N_over_hours : List Str := ["needs", "starts", "length"]
theorem sc_over_hours : FnScope N_over_hours ["needs", "starts", "length"] (defScope s_over_hours) := ⟨rfl, rfl, rfl, by decide +kernel, rfl, by decide +kernel, by decide +kernel⟩
noncomputable def t0_over_hours : Sv := (sExpr (eCallN 1 g_check_needs (aCons (eVar 0) aNil)))
noncomputable def t1_over_hours : Sv := (sExpr (eCallN 1 g_check_starts (aCons (eVar 1) aNil)))
noncomputable def t2_over_hours : Sv := (sIf (tOf (eBin oNe (eCall fLen (aCons (eVar 1) aNil)) (eCall fLen (aCons (eVar 0) aNil))))
  (sRaise "NoStarts")
  sNil)
noncomputable def t3_over_hours : Sv := (sExpr (eCallN 1 g_check_length (aCons (eVar 2) aNil)))
noncomputable def t4_over_hours : Sv := (sIf (tNot (tOf (eCallN 3 g_are_enough (aCons (eVar 0) (aCons (eVar 1) (aCons (eVar 2) aNil))))))
  (sRaise "NoStarts")
  sNil)
noncomputable def t5_over_hours : Sv := (sRet (eBin oSub (eCall fSumX (aCons (eCallN 2 g_raw_at_work (aCons (eVar 1) (aCons (eVar 2) aNil))) aNil)) (eCall fSumX (aCons (eVar 0) aNil))))
noncomputable def b_over_hours : Sv := (sCons t0_over_hours
  (sCons t1_over_hours
  (sCons t2_over_hours
  (sCons t3_over_hours
  (sCons t4_over_hours
  t5_over_hours)))))
noncomputable def g_over_hours : Fn := fnOf 3 b_over_hours
theorem bd_over_hours {P : Program} {w : World} {K : PySem.W.Frag} {mg : Str → Option Value} {base : Heap} (h : Hd τ K mg base) (f : Addr) (cdv : Value) (B : Around) (fs : List PySem.Env) (s : Shared) (H : Hp) (E : XK) (cc : Cc (cxD P w K mg base N_over_hours "over_hours" s_over_hours f cdv B fs s H E) (wD E) 4) : DB τ (cxD P w K mg base N_over_hours "over_hours" s_over_hours f cdv B fs s H E) (wD E) (defBody s_over_hours) b_over_hours :=
  (db_cons (ds_expr (de_callD (ok_check_needs h) cc (by decide) (by rfl) (da_cons (de_var 0) da_nil)))
  (db_cons (ds_expr (de_callD (ok_check_starts h) cc (by decide) (by rfl) (da_cons (de_var 1) da_nil)))
  (db_cons (ds_if (dt_cmp (op_neX cc.hu) ok_ne (de_callB call_lenX ok_len (by rfl) h.z_len bb_len (da_cons (de_var 1) da_nil)) (de_callB call_lenX ok_len (by rfl) h.z_len bb_len (da_cons (de_var 0) da_nil)) (nomark _))
  (db_one (ds_raise0 cc h.e_NoStarts (by rfl)))
  db_nil)
  (db_cons (ds_expr (de_callD (ok_check_length h) cc (by decide) (by rfl) (da_cons (de_var 2) da_nil)))
  (db_cons (ds_if (dt_not (dt_val (de_callD (ok_are_enough h) cc (by decide) (by rfl) (da_cons (de_var 0) (da_cons (de_var 1) (da_cons (de_var 2) da_nil))))))
  (db_one (ds_raise0 cc h.e_NoStarts (by rfl)))
  db_nil)
  (db_one (ds_ret (de_bin op_sub ok_sub (de_callB (call_sumX cc.calm) ok_sumX (by rfl) h.z_sum bb_sum (da_cons (de_callD (ok_raw_at_work h) cc (by decide) (by rfl) (da_cons (de_var 1) (da_cons (de_var 2) da_nil))) da_nil)) (de_callB (call_sumX cc.calm) ok_sumX (by rfl) h.z_sum bb_sum (da_cons (de_var 0) da_nil))))))))))
theorem bi_over_hours (kV doc pm : Value) (an : Option Addr) (cdv ct : Value) (us : List Value) (hl : us.length = 3) : bindArgs (PySem.W.fnOf "over_hours" "over_hours" (defArgs s_over_hours) (defBody s_over_hours) (defScope s_over_hours) .none kV doc pm an cdv ct) ⟨us, []⟩ = pure ((["needs", "starts", "length"] : List Str).zip us) := match us, hl with | [_, _, _], _ => rfl
theorem ok_over_hours {P : Program} {w : World} {K : PySem.W.Frag} {mg : Str → Option Value} {base : Heap} (h : Hd τ K mg base) : DefOk τ P w K mg base 5 3 "over_hours" g_over_hours :=
  def_ok (b := b_over_hours) (N := N_over_hours) (ps := ["needs", "starts", "length"]) (st := s_over_hours) h.d_over_hours sc_over_hours rfl bi_over_hours (bd_over_hours h)
abbrev N__law_draw : List Str := ["hand", "many", "cell", "digit", "number"]
theorem sc__law_draw : FnScope N__law_draw ["hand", "many"] (defScope s__law_draw) := ⟨rfl, rfl, rfl, by decide +kernel, rfl, by decide +kernel, by decide +kernel⟩
noncomputable def b__law_draw : Sv := (sCons (sIf (tAnd (tOf (eBin oEq (eBin oIx (eVar 0) (eD (.int 2))) (eD (.int 0)))) (tOf (eBin oLt (eBin oIx (eVar 0) (eD (.int 1))) (eCall fLen (aCons (eBin oIx (eVar 0) (eD (.int 0))) aNil)))))
  (sCons (sSet 2 (eBin oIx (eBin oIx (eVar 0) (eD (.int 0))) (eBin oIx (eVar 0) (eD (.int 1)))))
  (sCons (sPut (eVar 0) (eD (.int 1)) (eBin (oAdd false) (eBin oIx (eVar 0) (eD (.int 1))) (eD (.int 1))))
  (sCons (sPut (eVar 0) (eD (.int 3)) (eBin oMod (eCall fInt (aCons (eBin (oAdd false) (eBin (oAdd false) (eBin (oMul false) (eBin oIx (eVar 0) (eD (.int 3))) (eD (.int 69621))) (eBin (oMul false) (eVar 2) (eD (.int 40692)))) (eD (.int 17))) aNil)) (eD (.int 2147483629))))
  (sIf (tOf (eBin oGe (eVar 2) (eBin oPow (eD (.int 10)) (eD (.int 18)))))
  (sPut (eVar 0) (eD (.int 2)) (eVar 2))
  sNil))))
  sNil)
  (sCons (sIf (tOf (eBin oGt (eBin oIx (eVar 0) (eD (.int 2))) (eD (.int 0))))
  (sCons (sSet 3 (eBin oMod (eCall fInt (aCons (eBin oIx (eVar 0) (eD (.int 2))) aNil)) (eVar 1)))
  (sCons (sPut (eVar 0) (eD (.int 2)) (eBin oDiv (eBin oIx (eVar 0) (eD (.int 2))) (eVar 1)))
  (sRet (eVar 3))))
  sNil)
  (sCons (sPut (eVar 0) (eD (.int 4)) (eBin (oAdd false) (eBin oIx (eVar 0) (eD (.int 4))) (eD (.int 1))))
  (sCons (sSet 4 (eBin oMod (eCall fInt (aCons (eBin (oMul false) (eCall fInt (aCons (eBin (oAdd false) (eBin oIx (eVar 0) (eD (.int 3))) (eBin (oMul false) (eD (.int 7919)) (eBin oIx (eVar 0) (eD (.int 4))))) aNil)) (eD (.int 48271))) aNil)) (eD (.int 2147483647))))
  (sCons (sSet 4 (eBin oMod (eCall fInt (aCons (eBin (oMul false) (eVar 4) (eBin (oAdd false) (eBin oDiv (eVar 4) (eD (.int 1009))) (eD (.int 69621)))) aNil)) (eD (.int 2147483647))))
  (sCons (sSet 4 (eBin oMod (eCall fInt (aCons (eBin (oMul false) (eVar 4) (eBin (oAdd false) (eBin oDiv (eVar 4) (eD (.int 2003))) (eD (.int 40014)))) aNil)) (eD (.int 2147483563))))
  (sRet (eBin oMod (eCall fInt (aCons (eBin oDiv (eVar 4) (eD (.int 16))) aNil)) (eVar 1)))))))))
noncomputable def g__law_draw : Fn := fnOf 5 b__law_draw
theorem bd__law_draw {P : Program} {w : World} {K : PySem.W.Frag} {mg : Str → Option Value} {base : Heap} (h : Hd τ K mg base) (f : Addr) (cdv : Value) (B : Around) (fs : List PySem.Env) (s : Shared) (H : Hp) (E : XK) (cc : Cc (cxD P w K mg base N__law_draw "_law_draw" s__law_draw f cdv B fs s H E) (wD E) 0) : DB τ (cxD P w K mg base N__law_draw "_law_draw" s__law_draw f cdv B fs s H E) (wD E) (defBody s__law_draw) b__law_draw :=
  (db_cons (ds_if (DW.t (dw_and (dt_cmp (op_eqX cc.hu) ok_eq (de_ix (j := 0) (de_var 0) de_int) de_int (nomark _)) (dw_one (dt_cmp (op_ltX cc.hu) ok_lt (de_ix (j := 0) (de_var 0) de_int) (de_callB call_lenX ok_len (by rfl) h.z_len bb_len (da_cons (de_ix (j := 0) (de_var 0) de_int) da_nil)) (nomark _)))))
  (db_cons (ds_set 2 cc.nd rfl (.inl rfl) (de_ix (j := 0) (de_ix (j := 0) (de_var 0) de_int) (de_ix (j := 0) (de_var 0) de_int)))
  (db_cons (ds_put (de_var 0) de_int (de_bin op_addX ok_add (de_ix (j := 0) (de_var 0) de_int) de_int))
  (db_cons (ds_put (de_var 0) de_int (de_bin op_modX ok_mod (de_callTy call_int1 ok_int (by rfl) h.z_int bb_int (da_cons (de_bin op_addX ok_add (de_bin op_addX ok_add (de_bin op_mulX' ok_mul (de_ix (j := 0) (de_var 0) de_int) de_int) (de_bin op_mulX' ok_mul (de_var 2) de_int)) de_int) da_nil)) de_int))
  (db_one (ds_if (dt_cmp (op_geX cc.hu) ok_ge (de_var 2) (de_bin op_pow ok_pow de_int de_int) (nomark _))
  (db_one (ds_put (de_var 0) de_int (de_var 2)))
  db_nil)))))
  db_nil)
  (db_cons (ds_if (dt_cmp (op_gtX cc.hu) ok_gt (de_ix (j := 0) (de_var 0) de_int) de_int (nomark _))
  (db_cons (ds_set 3 cc.nd rfl (.inl rfl) (de_bin op_modX ok_mod (de_callTy call_int1 ok_int (by rfl) h.z_int bb_int (da_cons (de_ix (j := 0) (de_var 0) de_int) da_nil)) (de_var 1)))
  (db_cons (ds_put (de_var 0) de_int (de_bin op_divX ok_div (de_ix (j := 0) (de_var 0) de_int) (de_var 1)))
  (db_one (ds_ret (de_var 3)))))
  db_nil)
  (db_cons (ds_put (de_var 0) de_int (de_bin op_addX ok_add (de_ix (j := 0) (de_var 0) de_int) de_int))
  (db_cons (ds_set 4 cc.nd rfl (.inl rfl) (de_bin op_modX ok_mod (de_callTy call_int1 ok_int (by rfl) h.z_int bb_int (da_cons (de_bin op_mulX' ok_mul (de_callTy call_int1 ok_int (by rfl) h.z_int bb_int (da_cons (de_bin op_addX ok_add (de_ix (j := 0) (de_var 0) de_int) (de_bin op_mulX' ok_mul de_int (de_ix (j := 0) (de_var 0) de_int))) da_nil)) de_int) da_nil)) de_int))
  (db_cons (ds_set 4 cc.nd rfl (.inl rfl) (de_bin op_modX ok_mod (de_callTy call_int1 ok_int (by rfl) h.z_int bb_int (da_cons (de_bin op_mulX' ok_mul (de_var 4) (de_bin op_addX ok_add (de_bin op_divX ok_div (de_var 4) de_int) de_int)) da_nil)) de_int))
  (db_cons (ds_set 4 cc.nd rfl (.inl rfl) (de_bin op_modX ok_mod (de_callTy call_int1 ok_int (by rfl) h.z_int bb_int (da_cons (de_bin op_mulX' ok_mul (de_var 4) (de_bin op_addX ok_add (de_bin op_divX ok_div (de_var 4) de_int) de_int)) da_nil)) de_int))
  (db_one (ds_ret (de_bin op_modX ok_mod (de_callTy call_int1 ok_int (by rfl) h.z_int bb_int (da_cons (de_bin op_divX ok_div (de_var 4) de_int) da_nil)) (de_var 1))))))))))
theorem bi__law_draw (kV doc pm : Value) (an : Option Addr) (cdv ct : Value) (us : List Value) (hl : us.length = 2) : bindArgs (PySem.W.fnOf "_law_draw" "_law_draw" (defArgs s__law_draw) (defBody s__law_draw) (defScope s__law_draw) .none kV doc pm an cdv ct) ⟨us, []⟩ = pure ((["hand", "many"] : List Str).zip us) := match us, hl with | [_, _], _ => rfl
theorem ok__law_draw {P : Program} {w : World} {K : PySem.W.Frag} {mg : Str → Option Value} {base : Heap} (h : Hd τ K mg base) : DefOk τ P w K mg base 1 2 "_law_draw" g__law_draw :=
  def_ok (b := b__law_draw) (N := N__law_draw) (ps := ["hand", "many"]) (st := s__law_draw) h.d__law_draw sc__law_draw rfl bi__law_draw (bd__law_draw h)
abbrev N__law_any : List Str := ["hand", "some"]
theorem sc__law_any : FnScope N__law_any ["hand", "some"] (defScope s__law_any) := ⟨rfl, rfl, rfl, by decide +kernel, rfl, by decide +kernel, by decide +kernel⟩
noncomputable def b__law_any : Sv := (sRet (eBin oIx (eVar 1) (eCallN 2 g__law_draw (aCons (eVar 0) (aCons (eCall fLen (aCons (eVar 1) aNil)) aNil)))))
noncomputable def g__law_any : Fn := fnOf 2 b__law_any
theorem bd__law_any {P : Program} {w : World} {K : PySem.W.Frag} {mg : Str → Option Value} {base : Heap} (h : Hd τ K mg base) (f : Addr) (cdv : Value) (B : Around) (fs : List PySem.Env) (s : Shared) (H : Hp) (E : XK) (cc : Cc (cxD P w K mg base N__law_any "_law_any" s__law_any f cdv B fs s H E) (wD E) 1) : DB τ (cxD P w K mg base N__law_any "_law_any" s__law_any f cdv B fs s H E) (wD E) (defBody s__law_any) b__law_any :=
  (db_one (ds_ret (de_ix (j := 0) (de_var 1) (de_callD (ok__law_draw h) cc (by decide) (by rfl) (da_cons (de_var 0) (da_cons (de_callB call_lenX ok_len (by rfl) h.z_len bb_len (da_cons (de_var 1) da_nil)) da_nil))))))
theorem bi__law_any (kV doc pm : Value) (an : Option Addr) (cdv ct : Value) (us : List Value) (hl : us.length = 2) : bindArgs (PySem.W.fnOf "_law_any" "_law_any" (defArgs s__law_any) (defBody s__law_any) (defScope s__law_any) .none kV doc pm an cdv ct) ⟨us, []⟩ = pure ((["hand", "some"] : List Str).zip us) := match us, hl with | [_, _], _ => rfl
theorem ok__law_any {P : Program} {w : World} {K : PySem.W.Frag} {mg : Str → Option Value} {base : Heap} (h : Hd τ K mg base) : DefOk τ P w K mg base 2 2 "_law_any" g__law_any :=
  def_ok (b := b__law_any) (N := N__law_any) (ps := ["hand", "some"]) (st := s__law_any) h.d__law_any sc__law_any rfl bi__law_any (bd__law_any h)
abbrev N__law_needs : List Str := ["hand", "most", "top", "hour"]
theorem sc__law_needs : FnScope N__law_needs ["hand", "most"] (defScope s__law_needs) := ⟨rfl, rfl, rfl, by decide +kernel, rfl, by decide +kernel, by decide +kernel⟩
noncomputable def l0__law_needs : Ev := (eCallN 2 g__law_draw (aCons (eVar 0) (aCons (eVar 2) aNil)))
noncomputable def b__law_needs : Sv := (sCons (sSet 2 (eCallN 2 g__law_any (aCons (eVar 0) (aCons (eLst false (aCons (eD (.int 2)) (aCons (eD (.int 5)) (aCons (eD (.int 21)) aNil)))) aNil))))
  (sRet (eCall fTuple (aCons (eLc false (iRange (aCons (eBin (oAdd false) (eD (.int 1)) (eCallN 2 g__law_draw (aCons (eVar 0) (aCons (eVar 1) aNil)))) aNil)) (gN 3) tYesD l0__law_needs [3]) aNil))))
noncomputable def g__law_needs : Fn := fnOf 4 b__law_needs
theorem bd__law_needs {P : Program} {w : World} {K : PySem.W.Frag} {mg : Str → Option Value} {base : Heap} (h : Hd τ K mg base) (f : Addr) (cdv : Value) (B : Around) (fs : List PySem.Env) (s : Shared) (H : Hp) (E : XK) (cc : Cc (cxD P w K mg base N__law_needs "_law_needs" s__law_needs f cdv B fs s H E) (wD E) 2) : DB τ (cxD P w K mg base N__law_needs "_law_needs" s__law_needs f cdv B fs s H E) (wD E) (defBody s__law_needs) b__law_needs :=
  (db_cons (ds_set 2 cc.nd rfl (.inr rfl) (de_callD (ok__law_any h) cc (by decide) (by rfl) (da_cons (de_var 0) (da_cons (de_lst false (da_cons de_int (da_cons de_int (da_cons de_int da_nil)))) da_nil))))
  (db_one (ds_ret (de_callTy call_tuple_of ok_tuple (by rfl) h.z_tuple bb_tuple (da_cons (de_lc false cc (di_range1 (by rfl) h.z_range (da_cons (de_bin op_addX ok_add de_int (de_callD (ok__law_draw h) cc (by decide) (by rfl) (da_cons (de_var 0) (da_cons (de_var 1) da_nil)))) da_nil)) (blkOk_by (N := N__law_needs) (sc := defScope s__law_needs) (own := [("hour", 3)]) (by decide +kernel)) (fun _ _ _ _ _ => (dg_name 3 cc.blk.nd rfl (.inl rfl))) (fun _ _ _ _ _ => dts_nil) (fun _ _ _ _ _ => (de_callD (ok__law_draw h) cc.blk (by decide) (by rfl) (da_cons (de_var 0) (da_cons (de_var 2) da_nil))))) da_nil)))))
theorem bi__law_needs (kV doc pm : Value) (an : Option Addr) (cdv ct : Value) (us : List Value) (hl : us.length = 2) : bindArgs (PySem.W.fnOf "_law_needs" "_law_needs" (defArgs s__law_needs) (defBody s__law_needs) (defScope s__law_needs) .none kV doc pm an cdv ct) ⟨us, []⟩ = pure ((["hand", "most"] : List Str).zip us) := match us, hl with | [_, _], _ => rfl
theorem ok__law_needs {P : Program} {w : World} {K : PySem.W.Frag} {mg : Str → Option Value} {base : Heap} (h : Hd τ K mg base) : DefOk τ P w K mg base 3 2 "_law_needs" g__law_needs :=
  def_ok (b := b__law_needs) (N := N__law_needs) (ps := ["hand", "most"]) (st := s__law_needs) h.d__law_needs sc__law_needs rfl bi__law_needs (bd__law_needs h)
abbrev N__law_lots_apart : List Str := ["many", "length", "found", "hour", "lot"]
theorem sc__law_lots_apart : FnScope N__law_lots_apart ["many", "length"] (defScope s__law_lots_apart) := ⟨rfl, rfl, rfl, by decide +kernel, rfl, by decide +kernel, by decide +kernel⟩
noncomputable def l0__law_lots_apart : Ev := (eBin (oAdd false) (eVar 4) (eTup (aCons (eVar 3) aNil)))
noncomputable def l1__law_lots_apart : Tv := (tOr (tOf (eBin oEq (eCall fLen (aCons (eVar 4) aNil)) (eD (.int 0)))) (tOf (eBin oGe (eBin oSub (eVar 3) (eBin oIx (eVar 4) (eUn oNeg (eD (.int 1))))) (eVar 1))))
noncomputable def l2__law_lots_apart : Sv := (sSet 2 (eBin (oAdd false) (eVar 2) (eLc false (iSeq (eVar 2)) (gN 4) l1__law_lots_apart l0__law_lots_apart [4])))
noncomputable def b__law_lots_apart : Sv := (sCons (sSet 2 (eLst false (aCons (eTup aNil) aNil)))
  (sCons (sFor (iRange (aCons (eVar 0) aNil)) (gN 3) l2__law_lots_apart)
  (sRet (eVar 2))))
noncomputable def g__law_lots_apart : Fn := fnOf 5 b__law_lots_apart
theorem bd__law_lots_apart {P : Program} {w : World} {K : PySem.W.Frag} {mg : Str → Option Value} {base : Heap} (h : Hd τ K mg base) (f : Addr) (cdv : Value) (B : Around) (fs : List PySem.Env) (s : Shared) (H : Hp) (E : XK) (cc : Cc (cxD P w K mg base N__law_lots_apart "_law_lots_apart" s__law_lots_apart f cdv B fs s H E) (wD E) 0) : DB τ (cxD P w K mg base N__law_lots_apart "_law_lots_apart" s__law_lots_apart f cdv B fs s H E) (wD E) (defBody s__law_lots_apart) b__law_lots_apart :=
  (db_cons (ds_set 2 cc.nd rfl (.inl rfl) (de_lst false (da_cons (de_tup da_nil) da_nil)))
  (db_cons (ds_for cc (di_range1 (by rfl) h.z_range (da_cons (de_var 0) da_nil)) (dg_name 3 cc.nd rfl (.inr rfl))
  (db_one (ds_set 2 cc.nd rfl (.inl rfl) (de_bin op_addX ok_add (de_var 2) (de_lc false cc (di_seq (de_var 2)) (blkOk_by (N := N__law_lots_apart) (sc := defScope s__law_lots_apart) (own := [("lot", 4)]) (by decide +kernel)) (fun _ _ _ _ _ => (dg_name 4 cc.blk.nd rfl (.inl rfl))) (fun _ _ _ _ _ => (dts_one (DW.t (dw_or (dt_cmp (op_eqX cc.blk.hu) ok_eq (de_callB call_lenX ok_len (by rfl) h.z_len bb_len (da_cons (de_var 4) da_nil)) de_int (nomark _)) (dw_or1 (dt_cmp (op_geX cc.blk.hu) ok_ge (de_bin op_sub ok_sub (de_var 3) (de_ix (j := 0) (de_var 4) (de_un un_neg ok_neg de_int))) (de_var 1) (nomark _))))))) (fun _ _ _ _ _ => (de_bin op_addX ok_add (de_var 4) (de_tup (da_cons (de_var 3) da_nil)))))))))
  (db_one (ds_ret (de_var 2)))))
theorem bi__law_lots_apart (kV doc pm : Value) (an : Option Addr) (cdv ct : Value) (us : List Value) (hl : us.length = 2) : bindArgs (PySem.W.fnOf "_law_lots_apart" "_law_lots_apart" (defArgs s__law_lots_apart) (defBody s__law_lots_apart) (defScope s__law_lots_apart) .none kV doc pm an cdv ct) ⟨us, []⟩ = pure ((["many", "length"] : List Str).zip us) := match us, hl with | [_, _], _ => rfl
theorem ok__law_lots_apart {P : Program} {w : World} {K : PySem.W.Frag} {mg : Str → Option Value} {base : Heap} (h : Hd τ K mg base) : DefOk τ P w K mg base 1 2 "_law_lots_apart" g__law_lots_apart :=
  def_ok (b := b__law_lots_apart) (N := N__law_lots_apart) (ps := ["many", "length"]) (st := s__law_lots_apart) h.d__law_lots_apart sc__law_lots_apart rfl bi__law_lots_apart (bd__law_lots_apart h)
abbrev N__law_deep : List Str := ["hand", "deep", "lap"]
theorem sc__law_deep : FnScope N__law_deep ["hand"] (defScope s__law_deep) := ⟨rfl, rfl, rfl, by decide +kernel, rfl, by decide +kernel, by decide +kernel⟩
noncomputable def l0__law_deep : Sv := (sSet 1 (eIf (tOf (eBin oEq (eCallN 2 g__law_draw (aCons (eVar 0) (aCons (eD (.int 2)) aNil))) (eD (.int 0)))) (eLst false (aCons (eVar 1) aNil)) (eTup (aCons (eVar 1) aNil))))
noncomputable def b__law_deep : Sv := (sCons (sSet 1 (eCallN 2 g__law_any (aCons (eVar 0) (aCons (eLst false (aCons (eD .none) (aCons (eD (.str "X")) (aCons (eDic0 false) aNil)))) aNil))))
  (sCons (sFor (iRange (aCons (eBin (oAdd false) (eD (.int 1)) (eCallN 2 g__law_draw (aCons (eVar 0) (aCons (eD (.int 30)) aNil)))) aNil)) (gN 2) l0__law_deep)
  (sRet (eVar 1))))
noncomputable def g__law_deep : Fn := fnOf 3 b__law_deep
theorem bd__law_deep {P : Program} {w : World} {K : PySem.W.Frag} {mg : Str → Option Value} {base : Heap} (h : Hd τ K mg base) (f : Addr) (cdv : Value) (B : Around) (fs : List PySem.Env) (s : Shared) (H : Hp) (E : XK) (cc : Cc (cxD P w K mg base N__law_deep "_law_deep" s__law_deep f cdv B fs s H E) (wD E) 2) : DB τ (cxD P w K mg base N__law_deep "_law_deep" s__law_deep f cdv B fs s H E) (wD E) (defBody s__law_deep) b__law_deep :=
  (db_cons (ds_set 1 cc.nd rfl (.inl rfl) (de_callD (ok__law_any h) cc (by decide) (by rfl) (da_cons (de_var 0) (da_cons (de_lst false (da_cons de_non (da_cons de_str (da_cons (de_dic0 false) da_nil)))) da_nil))))
  (db_cons (ds_for cc (di_range1 (by rfl) h.z_range (da_cons (de_bin op_addX ok_add de_int (de_callD (ok__law_draw h) cc (by decide) (by rfl) (da_cons (de_var 0) (da_cons de_int da_nil)))) da_nil)) (dg_name 2 cc.nd rfl (.inl rfl))
  (db_one (ds_set 1 cc.nd rfl (.inl rfl) (de_if (dt_cmp (op_eqX cc.hu) ok_eq (de_callD (ok__law_draw h) cc (by decide) (by rfl) (da_cons (de_var 0) (da_cons de_int da_nil))) de_int (nomark _)) (de_lst false (da_cons (de_var 1) da_nil)) (de_tup (da_cons (de_var 1) da_nil))))))
  (db_one (ds_ret (de_var 1)))))
theorem bi__law_deep (kV doc pm : Value) (an : Option Addr) (cdv ct : Value) (us : List Value) (hl : us.length = 1) : bindArgs (PySem.W.fnOf "_law_deep" "_law_deep" (defArgs s__law_deep) (defBody s__law_deep) (defScope s__law_deep) .none kV doc pm an cdv ct) ⟨us, []⟩ = pure ((["hand"] : List Str).zip us) := match us, hl with | [_], _ => rfl
theorem ok__law_deep {P : Program} {w : World} {K : PySem.W.Frag} {mg : Str → Option Value} {base : Heap} (h : Hd τ K mg base) : DefOk τ P w K mg base 3 1 "_law_deep" g__law_deep :=
  def_ok (b := b__law_deep) (N := N__law_deep) (ps := ["hand"]) (st := s__law_deep) h.d__law_deep sc__law_deep rfl bi__law_deep (bd__law_deep h)
abbrev N_is_lot : List Str := ["thing", "below", "one", "other"]
theorem sc_is_lot : FnScope N_is_lot ["thing", "below"] (defScope s_is_lot) := ⟨rfl, rfl, rfl, by decide +kernel, rfl, by decide +kernel, by decide +kernel⟩
noncomputable def l0_is_lot : Ev := (eBin oLt (eVar 2) (eVar 3))
noncomputable def b_is_lot : Sv := (sCons (sIf (tNot (tOf (eCallN 3 g_are_within (aCons (eVar 0) (aCons (eD (.int 0)) (aCons (eBin oSub (eVar 1) (eD (.int 1))) aNil))))))
  (sRet (eD (.bool false)))
  sNil)
  (sRet (eCall fAll (aCons (eLc false (iZipX (aCons (eVar 0) (aCons (eSl false (eVar 0) (pAt (eD (.int 1))) pNo) aNil))) (gT [(gN 2), (gN 3)]) tYesD l0_is_lot [2, 3]) aNil))))
noncomputable def g_is_lot : Fn := fnOf 4 b_is_lot
theorem bd_is_lot {P : Program} {w : World} {K : PySem.W.Frag} {mg : Str → Option Value} {base : Heap} (h : Hd τ K mg base) (f : Addr) (cdv : Value) (B : Around) (fs : List PySem.Env) (s : Shared) (H : Hp) (E : XK) (cc : Cc (cxD P w K mg base N_is_lot "is_lot" s_is_lot f cdv B fs s H E) (wD E) 3) : DB τ (cxD P w K mg base N_is_lot "is_lot" s_is_lot f cdv B fs s H E) (wD E) (defBody s_is_lot) b_is_lot :=
  (db_cons (ds_if (dt_not (dt_val (de_callD (ok_are_within h) cc (by decide) (by rfl) (da_cons (de_var 0) (da_cons de_int (da_cons (de_bin op_sub ok_sub (de_var 1) de_int) da_nil))))))
  (db_one (ds_ret de_bl))
  db_nil)
  (db_one (ds_ret (de_callB (call_allX cc.calm) ok_allF (by rfl) h.z_all bb_all (da_cons (de_lc false cc (di_zipX (by rfl) h.z_zip (da_cons (de_var 0) (da_cons (de_sl false (de_var 0) (dp_at de_int) dp_no) da_nil))) (blkOk_by (N := N_is_lot) (sc := defScope s_is_lot) (own := [("one", 2), ("other", 3)]) (by decide +kernel)) (fun _ _ _ _ _ => (dg_tup cc.blk.calm (dgs_cons (dg_name 2 cc.blk.nd rfl (.inl rfl)) (dgs_cons (dg_name 3 cc.blk.nd rfl (.inl rfl)) dgs_nil)))) (fun _ _ _ _ _ => dts_nil) (fun _ _ _ _ _ => (de_cmp (op_ltX cc.blk.hu) ok_lt (de_var 2) (de_var 3) (nomark _)))) da_nil)))))
theorem bi_is_lot (kV doc pm : Value) (an : Option Addr) (cdv ct : Value) (us : List Value) (hl : us.length = 2) : bindArgs (PySem.W.fnOf "is_lot" "is_lot" (defArgs s_is_lot) (defBody s_is_lot) (defScope s_is_lot) .none kV doc pm an cdv ct) ⟨us, []⟩ = pure ((["thing", "below"] : List Str).zip us) := match us, hl with | [_, _], _ => rfl
theorem ok_is_lot {P : Program} {w : World} {K : PySem.W.Frag} {mg : Str → Option Value} {base : Heap} (h : Hd τ K mg base) : DefOk τ P w K mg base 4 2 "is_lot" g_is_lot :=
  def_ok (b := b_is_lot) (N := N_is_lot) (ps := ["thing", "below"]) (st := s_is_lot) h.d_is_lot sc_is_lot rfl bi_is_lot (bd_is_lot h)
abbrev N_is_hours_apart : List Str := ["needs", "length", "thing", "one", "other"]
theorem sc_is_hours_apart : FnScope N_is_hours_apart ["needs", "length", "thing"] (defScope s_is_hours_apart) := ⟨rfl, rfl, rfl, by decide +kernel, rfl, by decide +kernel, by decide +kernel⟩
noncomputable def l0_is_hours_apart : Ev := (eBin oGe (eBin oSub (eVar 4) (eVar 3)) (eVar 1))
noncomputable def b_is_hours_apart : Sv := (sCons (sExpr (eCallN 2 g_check_both (aCons (eVar 0) (aCons (eVar 1) aNil))))
  (sCons (sIf (tNot (tOf (eCallN 2 g_is_lot (aCons (eVar 2) (aCons (eCall fLen (aCons (eVar 0) aNil)) aNil)))))
  (sRet (eD (.bool false)))
  sNil)
  (sRet (eCall fAll (aCons (eLc false (iZipX (aCons (eVar 2) (aCons (eSl false (eVar 2) (pAt (eD (.int 1))) pNo) aNil))) (gT [(gN 3), (gN 4)]) tYesD l0_is_hours_apart [3, 4]) aNil)))))
noncomputable def g_is_hours_apart : Fn := fnOf 5 b_is_hours_apart
theorem bd_is_hours_apart {P : Program} {w : World} {K : PySem.W.Frag} {mg : Str → Option Value} {base : Heap} (h : Hd τ K mg base) (f : Addr) (cdv : Value) (B : Around) (fs : List PySem.Env) (s : Shared) (H : Hp) (E : XK) (cc : Cc (cxD P w K mg base N_is_hours_apart "is_hours_apart" s_is_hours_apart f cdv B fs s H E) (wD E) 5) : DB τ (cxD P w K mg base N_is_hours_apart "is_hours_apart" s_is_hours_apart f cdv B fs s H E) (wD E) (defBody s_is_hours_apart) b_is_hours_apart :=
  (db_cons (ds_expr (de_callD (ok_check_both h) cc (by decide) (by rfl) (da_cons (de_var 0) (da_cons (de_var 1) da_nil))))
  (db_cons (ds_if (dt_not (dt_val (de_callD (ok_is_lot h) cc (by decide) (by rfl) (da_cons (de_var 2) (da_cons (de_callB call_lenX ok_len (by rfl) h.z_len bb_len (da_cons (de_var 0) da_nil)) da_nil)))))
  (db_one (ds_ret de_bl))
  db_nil)
  (db_one (ds_ret (de_callB (call_allX cc.calm) ok_allF (by rfl) h.z_all bb_all (da_cons (de_lc false cc (di_zipX (by rfl) h.z_zip (da_cons (de_var 2) (da_cons (de_sl false (de_var 2) (dp_at de_int) dp_no) da_nil))) (blkOk_by (N := N_is_hours_apart) (sc := defScope s_is_hours_apart) (own := [("one", 3), ("other", 4)]) (by decide +kernel)) (fun _ _ _ _ _ => (dg_tup cc.blk.calm (dgs_cons (dg_name 3 cc.blk.nd rfl (.inl rfl)) (dgs_cons (dg_name 4 cc.blk.nd rfl (.inl rfl)) dgs_nil)))) (fun _ _ _ _ _ => dts_nil) (fun _ _ _ _ _ => (de_cmp (op_geX cc.blk.hu) ok_ge (de_bin op_sub ok_sub (de_var 4) (de_var 3)) (de_var 1) (nomark _)))) da_nil))))))
theorem bi_is_hours_apart (kV doc pm : Value) (an : Option Addr) (cdv ct : Value) (us : List Value) (hl : us.length = 3) : bindArgs (PySem.W.fnOf "is_hours_apart" "is_hours_apart" (defArgs s_is_hours_apart) (defBody s_is_hours_apart) (defScope s_is_hours_apart) .none kV doc pm an cdv ct) ⟨us, []⟩ = pure ((["needs", "length", "thing"] : List Str).zip us) := match us, hl with | [_, _, _], _ => rfl
theorem ok_is_hours_apart {P : Program} {w : World} {K : PySem.W.Frag} {mg : Str → Option Value} {base : Heap} (h : Hd τ K mg base) : DefOk τ P w K mg base 6 3 "is_hours_apart" g_is_hours_apart :=
  def_ok (b := b_is_hours_apart) (N := N_is_hours_apart) (ps := ["needs", "length", "thing"]) (st := s_is_hours_apart) h.d_is_hours_apart sc_is_hours_apart rfl bi_is_hours_apart (bd_is_hours_apart h)
abbrev N__law_is_int : List Str := ["thing"]
theorem sc__law_is_int : FnScope N__law_is_int ["thing"] (defScope s__law_is_int) := ⟨rfl, rfl, rfl, by decide +kernel, rfl, by decide +kernel, by decide +kernel⟩
noncomputable def b__law_is_int : Sv := (sRet (eAnd (eCall fIsi (aCons (eVar 0) (aCons (eTy .int) aNil))) (eNot (eCall fIsi (aCons (eVar 0) (aCons (eTy .bool) aNil))))))
noncomputable def g__law_is_int : Fn := fnOf 1 b__law_is_int
theorem bd__law_is_int {P : Program} {w : World} {K : PySem.W.Frag} {mg : Str → Option Value} {base : Heap} (h : Hd τ K mg base) (f : Addr) (cdv : Value) (B : Around) (fs : List PySem.Env) (s : Shared) (H : Hp) (E : XK) (cc : Cc (cxD P w K mg base N__law_is_int "_law_is_int" s__law_is_int f cdv B fs s H E) (wD E) 0) : DB τ (cxD P w K mg base N__law_is_int "_law_is_int" s__law_is_int f cdv B fs s H E) (wD E) (defBody s__law_is_int) b__law_is_int :=
  (db_one (ds_ret (de_and (de_callB call_isiX ok_isi (by rfl) h.z_isinstance bb_isinstance (da_cons (de_var 0) (da_cons (de_ty (T := .int) (by rfl) h.z_int bb_int) da_nil))) (de_one (de_not (de_callB call_isiX ok_isi (by rfl) h.z_isinstance bb_isinstance (da_cons (de_var 0) (da_cons (de_ty (T := .bool) (by rfl) h.z_bool bb_bool) da_nil))))))))
theorem bi__law_is_int (kV doc pm : Value) (an : Option Addr) (cdv ct : Value) (us : List Value) (hl : us.length = 1) : bindArgs (PySem.W.fnOf "_law_is_int" "_law_is_int" (defArgs s__law_is_int) (defBody s__law_is_int) (defScope s__law_is_int) .none kV doc pm an cdv ct) ⟨us, []⟩ = pure ((["thing"] : List Str).zip us) := match us, hl with | [_], _ => rfl
theorem ok__law_is_int {P : Program} {w : World} {K : PySem.W.Frag} {mg : Str → Option Value} {base : Heap} (h : Hd τ K mg base) : DefOk τ P w K mg base 1 1 "_law_is_int" g__law_is_int :=
  def_ok (b := b__law_is_int) (N := N__law_is_int) (ps := ["thing"]) (st := s__law_is_int) h.d__law_is_int sc__law_is_int rfl bi__law_is_int (bd__law_is_int h)
abbrev N__law_is_apart : List Str := ["needs", "length", "thing", "one", "at"]
theorem sc__law_is_apart : FnScope N__law_is_apart ["needs", "length", "thing"] (defScope s__law_is_apart) := ⟨rfl, rfl, rfl, by decide +kernel, rfl, by decide +kernel, by decide +kernel⟩
noncomputable def l0__law_is_apart : Ev := (eAnd (eCallN 1 g__law_is_int (aCons (eVar 3) aNil)) (eChain oLe oLt (eD (.int 0)) (eVar 3) (eCall fLen (aCons (eVar 0) aNil))))
noncomputable def l1__law_is_apart : Ev := (eBin oGe (eBin oSub (eBin oIx (eVar 2) (eBin (oAdd false) (eVar 4) (eD (.int 1)))) (eBin oIx (eVar 2) (eVar 4))) (eVar 1))
noncomputable def b__law_is_apart : Sv := (sCons (sIf (tOr (tNot (tOf (eCall fIsi (aCons (eVar 2) (aCons (eTy .tup) aNil))))) (tNot (tOf (eCall fAll (aCons (eLc false (iSeq (eVar 2)) (gN 3) tYesD l0__law_is_apart [3]) aNil)))))
  (sRet (eD (.bool false)))
  sNil)
  (sRet (eCall fAll (aCons (eLc false (iRange (aCons (eBin oSub (eCall fLen (aCons (eVar 2) aNil)) (eD (.int 1))) aNil)) (gN 4) tYesD l1__law_is_apart [4]) aNil))))
noncomputable def g__law_is_apart : Fn := fnOf 5 b__law_is_apart
theorem bd__law_is_apart {P : Program} {w : World} {K : PySem.W.Frag} {mg : Str → Option Value} {base : Heap} (h : Hd τ K mg base) (f : Addr) (cdv : Value) (B : Around) (fs : List PySem.Env) (s : Shared) (H : Hp) (E : XK) (cc : Cc (cxD P w K mg base N__law_is_apart "_law_is_apart" s__law_is_apart f cdv B fs s H E) (wD E) 1) : DB τ (cxD P w K mg base N__law_is_apart "_law_is_apart" s__law_is_apart f cdv B fs s H E) (wD E) (defBody s__law_is_apart) b__law_is_apart :=
  (db_cons (ds_if (DW.t (dw_or (dt_not (dt_val (de_callB call_isiX ok_isi (by rfl) h.z_isinstance bb_isinstance (da_cons (de_var 2) (da_cons (de_ty (T := .tup) (by rfl) h.z_tuple bb_tuple) da_nil))))) (dw_or1 (dt_not (dt_val (de_callB (call_allX cc.calm) ok_allF (by rfl) h.z_all bb_all (da_cons (de_lc false cc (di_seq (de_var 2)) (blkOk_by (N := N__law_is_apart) (sc := defScope s__law_is_apart) (own := [("one", 3)]) (by decide +kernel)) (fun _ _ _ _ _ => (dg_name 3 cc.blk.nd rfl (.inl rfl))) (fun _ _ _ _ _ => dts_nil) (fun _ _ _ _ _ => (de_and (de_callD (ok__law_is_int h) cc.blk (by decide) (by rfl) (da_cons (de_var 3) da_nil)) (de_one (de_chain (op_leX cc.blk.hu) ok_le (op_ltX cc.blk.hu) ok_lt de_int (de_var 3) (de_callB call_lenX ok_len (by rfl) h.z_len bb_len (da_cons (de_var 0) da_nil))))))) da_nil)))))))
  (db_one (ds_ret de_bl))
  db_nil)
  (db_one (ds_ret (de_callB (call_allX cc.calm) ok_allF (by rfl) h.z_all bb_all (da_cons (de_lc false cc (di_range1 (by rfl) h.z_range (da_cons (de_bin op_sub ok_sub (de_callB call_lenX ok_len (by rfl) h.z_len bb_len (da_cons (de_var 2) da_nil)) de_int) da_nil)) (blkOk_by (N := N__law_is_apart) (sc := defScope s__law_is_apart) (own := [("at", 4)]) (by decide +kernel)) (fun _ _ _ _ _ => (dg_name 4 cc.blk.nd rfl (.inl rfl))) (fun _ _ _ _ _ => dts_nil) (fun _ _ _ _ _ => (de_cmp (op_geX cc.blk.hu) ok_ge (de_bin op_sub ok_sub (de_ix (j := 0) (de_var 2) (de_bin op_addX ok_add (de_var 4) de_int)) (de_ix (j := 0) (de_var 2) (de_var 4))) (de_var 1) (nomark _)))) da_nil)))))
theorem bi__law_is_apart (kV doc pm : Value) (an : Option Addr) (cdv ct : Value) (us : List Value) (hl : us.length = 3) : bindArgs (PySem.W.fnOf "_law_is_apart" "_law_is_apart" (defArgs s__law_is_apart) (defBody s__law_is_apart) (defScope s__law_is_apart) .none kV doc pm an cdv ct) ⟨us, []⟩ = pure ((["needs", "length", "thing"] : List Str).zip us) := match us, hl with | [_, _, _], _ => rfl
theorem ok__law_is_apart {P : Program} {w : World} {K : PySem.W.Frag} {mg : Str → Option Value} {base : Heap} (h : Hd τ K mg base) : DefOk τ P w K mg base 2 3 "_law_is_apart" g__law_is_apart :=
  def_ok (b := b__law_is_apart) (N := N__law_is_apart) (ps := ["needs", "length", "thing"]) (st := s__law_is_apart) h.d__law_is_apart sc__law_is_apart rfl bi__law_is_apart (bd__law_is_apart h)
abbrev N__law_work : List Str := ["starts", "length", "hour"]
theorem sc__law_work : FnScope N__law_work ["starts", "length"] (defScope s__law_work) := ⟨rfl, rfl, rfl, by decide +kernel, rfl, by decide +kernel, by decide +kernel⟩
noncomputable def l0__law_work : Ev := (eCall fSumX (aCons (eSl false (eVar 0) (pAt (eCall fMax2 (aCons (eD (.int 0)) (aCons (eBin (oAdd false) (eBin oSub (eVar 2) (eVar 1)) (eD (.int 1))) aNil)))) (pAt (eBin (oAdd false) (eVar 2) (eD (.int 1))))) aNil))
noncomputable def b__law_work : Sv := (sRet (eCall fTuple (aCons (eLc false (iRange (aCons (eCall fLen (aCons (eVar 0) aNil)) aNil)) (gN 2) tYesD l0__law_work [2]) aNil)))
noncomputable def g__law_work : Fn := fnOf 3 b__law_work
theorem bd__law_work {P : Program} {w : World} {K : PySem.W.Frag} {mg : Str → Option Value} {base : Heap} (h : Hd τ K mg base) (f : Addr) (cdv : Value) (B : Around) (fs : List PySem.Env) (s : Shared) (H : Hp) (E : XK) (cc : Cc (cxD P w K mg base N__law_work "_law_work" s__law_work f cdv B fs s H E) (wD E) 0) : DB τ (cxD P w K mg base N__law_work "_law_work" s__law_work f cdv B fs s H E) (wD E) (defBody s__law_work) b__law_work :=
  (db_one (ds_ret (de_callTy call_tuple_of ok_tuple (by rfl) h.z_tuple bb_tuple (da_cons (de_lc false cc (di_range1 (by rfl) h.z_range (da_cons (de_callB call_lenX ok_len (by rfl) h.z_len bb_len (da_cons (de_var 0) da_nil)) da_nil)) (blkOk_by (N := N__law_work) (sc := defScope s__law_work) (own := [("hour", 2)]) (by decide +kernel)) (fun _ _ _ _ _ => (dg_name 2 cc.blk.nd rfl (.inl rfl))) (fun _ _ _ _ _ => dts_nil) (fun _ _ _ _ _ => (de_callB (call_sumX cc.blk.calm) ok_sumX (by rfl) h.z_sum bb_sum (da_cons (de_sl false (de_var 0) (dp_at (de_callB (call_max2 cc.blk.calm) ok_max2 (by rfl) h.z_max bb_max (da_cons de_int (da_cons (de_bin op_addX ok_add (de_bin op_sub ok_sub (de_var 2) (de_var 1)) de_int) da_nil)))) (dp_at (de_bin op_addX ok_add (de_var 2) de_int))) da_nil)))) da_nil))))
theorem bi__law_work (kV doc pm : Value) (an : Option Addr) (cdv ct : Value) (us : List Value) (hl : us.length = 2) : bindArgs (PySem.W.fnOf "_law_work" "_law_work" (defArgs s__law_work) (defBody s__law_work) (defScope s__law_work) .none kV doc pm an cdv ct) ⟨us, []⟩ = pure ((["starts", "length"] : List Str).zip us) := match us, hl with | [_, _], _ => rfl
theorem ok__law_work {P : Program} {w : World} {K : PySem.W.Frag} {mg : Str → Option Value} {base : Heap} (h : Hd τ K mg base) : DefOk τ P w K mg base 1 2 "_law_work" g__law_work :=
  def_ok (b := b__law_work) (N := N__law_work) (ps := ["starts", "length"]) (st := s__law_work) h.d__law_work sc__law_work rfl bi__law_work (bd__law_work h)
abbrev N__law_latest : List Str := ["needs", "length", "found", "hour", "need"]
theorem sc__law_latest : FnScope N__law_latest ["needs", "length"] (defScope s__law_latest) := ⟨rfl, rfl, rfl, by decide +kernel, rfl, by decide +kernel, by decide +kernel⟩
noncomputable def l0__law_latest : Sv := (sCons (sExpr (eApp (eVar 2) (eD (.int 0))))
  (sPut (eVar 2) (eVar 3) (eCall fMax2 (aCons (eD (.int 0)) (aCons (eBin oSub (eVar 4) (eBin oIx (eCallN 2 g__law_work (aCons (eVar 2) (aCons (eVar 1) aNil))) (eVar 3))) aNil)))))
noncomputable def b__law_latest : Sv := (sCons (sSet 2 (eLst true aNil))
  (sCons (sFor (iEnumD (eVar 0)) (gT [(gN 3), (gN 4)]) l0__law_latest)
  (sRet (eCall fTuple (aCons (eVar 2) aNil)))))
noncomputable def g__law_latest : Fn := fnOf 5 b__law_latest
theorem bd__law_latest {P : Program} {w : World} {K : PySem.W.Frag} {mg : Str → Option Value} {base : Heap} (h : Hd τ K mg base) (f : Addr) (cdv : Value) (B : Around) (fs : List PySem.Env) (s : Shared) (H : Hp) (E : XK) (cc : Cc (cxD P w K mg base N__law_latest "_law_latest" s__law_latest f cdv B fs s H E) (wD E) 1) : DB τ (cxD P w K mg base N__law_latest "_law_latest" s__law_latest f cdv B fs s H E) (wD E) (defBody s__law_latest) b__law_latest :=
  (db_cons (ds_set 2 cc.nd rfl (.inl rfl) (de_lst true da_nil))
  (db_cons (ds_for cc (di_enum (by rfl) h.z_enumerate (da_cons (de_var 0) da_nil)) (dg_tup cc.calm (dgs_cons (dg_name 3 cc.nd rfl (.inl rfl)) (dgs_cons (dg_name 4 cc.nd rfl (.inl rfl)) dgs_nil)))
  (db_cons (ds_expr (de_append (de_var 2) (da_cons de_int da_nil)))
  (db_one (ds_put (de_var 2) (de_var 3) (de_callB (call_max2 cc.calm) ok_max2 (by rfl) h.z_max bb_max (da_cons de_int (da_cons (de_bin op_sub ok_sub (de_var 4) (de_ix (j := 0) (de_callD (ok__law_work h) cc (by decide) (by rfl) (da_cons (de_var 2) (da_cons (de_var 1) da_nil))) (de_var 3))) da_nil)))))))
  (db_one (ds_ret (de_callTy call_tuple_of ok_tuple (by rfl) h.z_tuple bb_tuple (da_cons (de_var 2) da_nil))))))
theorem bi__law_latest (kV doc pm : Value) (an : Option Addr) (cdv ct : Value) (us : List Value) (hl : us.length = 2) : bindArgs (PySem.W.fnOf "_law_latest" "_law_latest" (defArgs s__law_latest) (defBody s__law_latest) (defScope s__law_latest) .none kV doc pm an cdv ct) ⟨us, []⟩ = pure ((["needs", "length"] : List Str).zip us) := match us, hl with | [_, _], _ => rfl
theorem ok__law_latest {P : Program} {w : World} {K : PySem.W.Frag} {mg : Str → Option Value} {base : Heap} (h : Hd τ K mg base) : DefOk τ P w K mg base 2 2 "_law_latest" g__law_latest :=
  def_ok (b := b__law_latest) (N := N__law_latest) (ps := ["needs", "length"]) (st := s__law_latest) h.d__law_latest sc__law_latest rfl bi__law_latest (bd__law_latest h)
abbrev N_raw_starts : List Str := ["needs", "length", "found", "hour", "need"]
theorem sc_raw_starts : FnScope N_raw_starts ["needs", "length"] (defScope s_raw_starts) := ⟨rfl, rfl, rfl, by decide +kernel, rfl, by decide +kernel, by decide +kernel⟩
noncomputable def l0_raw_starts : Sv := (sPut (eVar 2) (eVar 3) (eCall fMax2 (aCons (eD (.int 0)) (aCons (eBin oSub (eVar 4) (eCall fSumX (aCons (eSl false (eVar 2) (pAt (eCall fMax2 (aCons (eD (.int 0)) (aCons (eBin (oAdd false) (eBin oSub (eVar 3) (eVar 1)) (eD (.int 1))) aNil)))) (pAt (eVar 3))) aNil))) aNil))))
noncomputable def b_raw_starts : Sv := (sCons (sSet 2 (eBin (oMul true) (eLst false (aCons (eD (.int 0)) aNil)) (eCall fLen (aCons (eVar 0) aNil))))
  (sCons (sFor (iEnumD (eVar 0)) (gT [(gN 3), (gN 4)]) l0_raw_starts)
  (sRet (eCall fTuple (aCons (eVar 2) aNil)))))
noncomputable def g_raw_starts : Fn := fnOf 5 b_raw_starts
theorem bd_raw_starts {P : Program} {w : World} {K : PySem.W.Frag} {mg : Str → Option Value} {base : Heap} (h : Hd τ K mg base) (f : Addr) (cdv : Value) (B : Around) (fs : List PySem.Env) (s : Shared) (H : Hp) (E : XK) (cc : Cc (cxD P w K mg base N_raw_starts "raw_starts" s_raw_starts f cdv B fs s H E) (wD E) 0) : DB τ (cxD P w K mg base N_raw_starts "raw_starts" s_raw_starts f cdv B fs s H E) (wD E) (defBody s_raw_starts) b_raw_starts :=
  (db_cons (ds_set 2 cc.nd rfl (.inl rfl) (de_bin op_mulX' ok_mul (de_lst false (da_cons de_int da_nil)) (de_callB call_lenX ok_len (by rfl) h.z_len bb_len (da_cons (de_var 0) da_nil))))
  (db_cons (ds_for cc (di_enum (by rfl) h.z_enumerate (da_cons (de_var 0) da_nil)) (dg_tup cc.calm (dgs_cons (dg_name 3 cc.nd rfl (.inl rfl)) (dgs_cons (dg_name 4 cc.nd rfl (.inl rfl)) dgs_nil)))
  (db_one (ds_put (de_var 2) (de_var 3) (de_callB (call_max2 cc.calm) ok_max2 (by rfl) h.z_max bb_max (da_cons de_int (da_cons (de_bin op_sub ok_sub (de_var 4) (de_callB (call_sumX cc.calm) ok_sumX (by rfl) h.z_sum bb_sum (da_cons (de_sl false (de_var 2) (dp_at (de_callB (call_max2 cc.calm) ok_max2 (by rfl) h.z_max bb_max (da_cons de_int (da_cons (de_bin op_addX ok_add (de_bin op_sub ok_sub (de_var 3) (de_var 1)) de_int) da_nil)))) (dp_at (de_var 3))) da_nil))) da_nil))))))
  (db_one (ds_ret (de_callTy call_tuple_of ok_tuple (by rfl) h.z_tuple bb_tuple (da_cons (de_var 2) da_nil))))))
theorem bi_raw_starts (kV doc pm : Value) (an : Option Addr) (cdv ct : Value) (us : List Value) (hl : us.length = 2) : bindArgs (PySem.W.fnOf "raw_starts" "raw_starts" (defArgs s_raw_starts) (defBody s_raw_starts) (defScope s_raw_starts) .none kV doc pm an cdv ct) ⟨us, []⟩ = pure ((["needs", "length"] : List Str).zip us) := match us, hl with | [_, _], _ => rfl
theorem ok_raw_starts {P : Program} {w : World} {K : PySem.W.Frag} {mg : Str → Option Value} {base : Heap} (h : Hd τ K mg base) : DefOk τ P w K mg base 1 2 "raw_starts" g_raw_starts :=
  def_ok (b := b_raw_starts) (N := N_raw_starts) (ps := ["needs", "length"]) (st := s_raw_starts) h.d_raw_starts sc_raw_starts rfl bi_raw_starts (bd_raw_starts h)
abbrev N_least_starts : List Str := ["needs", "length"]
theorem sc_least_starts : FnScope N_least_starts ["needs", "length"] (defScope s_least_starts) := ⟨rfl, rfl, rfl, by decide +kernel, rfl, by decide +kernel, by decide +kernel⟩
noncomputable def b_least_starts : Sv := (sCons (sExpr (eCallN 2 g_check_both (aCons (eVar 0) (aCons (eVar 1) aNil))))
  (sRet (eCallN 2 g_raw_starts (aCons (eVar 0) (aCons (eVar 1) aNil)))))
noncomputable def g_least_starts : Fn := fnOf 2 b_least_starts
theorem bd_least_starts {P : Program} {w : World} {K : PySem.W.Frag} {mg : Str → Option Value} {base : Heap} (h : Hd τ K mg base) (f : Addr) (cdv : Value) (B : Around) (fs : List PySem.Env) (s : Shared) (H : Hp) (E : XK) (cc : Cc (cxD P w K mg base N_least_starts "least_starts" s_least_starts f cdv B fs s H E) (wD E) 5) : DB τ (cxD P w K mg base N_least_starts "least_starts" s_least_starts f cdv B fs s H E) (wD E) (defBody s_least_starts) b_least_starts :=
  (db_cons (ds_expr (de_callD (ok_check_both h) cc (by decide) (by rfl) (da_cons (de_var 0) (da_cons (de_var 1) da_nil))))
  (db_one (ds_ret (de_callD (ok_raw_starts h) cc (by decide) (by rfl) (da_cons (de_var 0) (da_cons (de_var 1) da_nil))))))
theorem bi_least_starts (kV doc pm : Value) (an : Option Addr) (cdv ct : Value) (us : List Value) (hl : us.length = 2) : bindArgs (PySem.W.fnOf "least_starts" "least_starts" (defArgs s_least_starts) (defBody s_least_starts) (defScope s_least_starts) .none kV doc pm an cdv ct) ⟨us, []⟩ = pure ((["needs", "length"] : List Str).zip us) := match us, hl with | [_, _], _ => rfl
theorem ok_least_starts {P : Program} {w : World} {K : PySem.W.Frag} {mg : Str → Option Value} {base : Heap} (h : Hd τ K mg base) : DefOk τ P w K mg base 6 2 "least_starts" g_least_starts :=
  def_ok (b := b_least_starts) (N := N_least_starts) (ps := ["needs", "length"]) (st := s_least_starts) h.d_least_starts sc_least_starts rfl bi_least_starts (bd_least_starts h)
abbrev N__law_is_right : List Str := ["hand", "needs", "length", "rows", "due", "lot", "drawn", "things", "thing", "starts", "work", "best", "more", "some", "spare", "hour", "one"]
theorem sc__law_is_right : FnScope N__law_is_right ["hand", "needs", "length"] (defScope s__law_is_right) := ⟨rfl, rfl, rfl, by decide +kernel, rfl, by decide +kernel, by decide +kernel⟩
noncomputable def l0__law_is_right : Ev := (eBin oIx (eVar 1) (eVar 15))
noncomputable def l1__law_is_right : Ev := (eTup (aCons (eBin oSub (eD (.int 0)) (eCall fSumX (aCons (eLc false (iSeq (eVar 5)) (gN 15) tYesD l0__law_is_right [15]) aNil))) (aCons (eVar 5) aNil)))
noncomputable def t0__law_is_right : Sv := (sSet 3 (eLc false (iSeq (eCallN 2 g__law_lots_apart (aCons (eCall fLen (aCons (eVar 1) aNil)) (aCons (eVar 2) aNil)))) (gN 5) tYesD l1__law_is_right [5]))
noncomputable def t1__law_is_right : Sv := (sSet 4 (eBin oIx (eCall fMin1 (aCons (eVar 3) aNil)) (eD (.int 1))))
noncomputable def t2__law_is_right : Sv := (sIf (tOf (eBin oNe (eLst false (aCons (eCallN 2 g_hours_apart (aCons (eVar 1) (aCons (eVar 2) aNil))) (aCons (eCallN 2 g_hours_apart (aCons (eVar 1) (aCons (eVar 2) aNil))) aNil))) (eLst false (aCons (eVar 4) (aCons (eVar 4) aNil)))))
  (sRet (eD (.bool false)))
  sNil)
noncomputable def t3__law_is_right : Sv := (sSet 5 (eBin oIx (eCallN 2 g__law_any (aCons (eVar 0) (aCons (eVar 3) aNil))) (eD (.int 1))))
noncomputable def l2__law_is_right : Ev := (eCallN 2 g__law_draw (aCons (eVar 0) (aCons (eCall fLen (aCons (eVar 1) aNil)) aNil)))
noncomputable def t4__law_is_right : Sv := (sSet 6 (eCall fTuple (aCons (eSrtSet false (eLc false (iRange (aCons (eCallN 2 g__law_draw (aCons (eVar 0) (aCons (eD (.int 4)) aNil))) aNil)) (gN 15) tYesD l2__law_is_right [15])) aNil)))
noncomputable def t5__law_is_right : Sv := (sSet 7 (eLst false (aCons (eVar 4) (aCons (eVar 5) (aCons (eVar 6) (aCons (eCall (fList false) (aCons (eVar 5) aNil)) (aCons (eBin (oAdd false) (eVar 5) (eTup (aCons (eCall fLen (aCons (eVar 1) aNil)) aNil))) (aCons (eBin (oAdd false) (eTup (aCons (eUn oNeg (eD (.int 1))) aNil)) (eVar 5)) (aCons (eRev false (eVar 6)) (aCons (eBin (oAdd false) (eVar 6) (eVar 6)) (aCons (eD .none) (aCons (eD (.int 0)) aNil))))))))))))
noncomputable def l3__law_is_right : Sv := (sIf (tOf (eBin oNe (eCall fReprX (aCons (eCallN 3 g_is_hours_apart (aCons (eVar 1) (aCons (eVar 2) (aCons (eVar 8) aNil)))) aNil)) (eCall fReprX (aCons (eCallN 3 g__law_is_apart (aCons (eVar 1) (aCons (eVar 2) (aCons (eVar 8) aNil)))) aNil))))
  (sRet (eD (.bool false)))
  sNil)
noncomputable def t6__law_is_right : Sv := (sFor (iSeq (eBin (oAdd false) (eVar 7) (eLst false (aCons (eD (.str "x")) (aCons (eDic0 false) (aCons (eTup aNil) (aCons (eTup (aCons (eD (.bool true)) aNil)) (aCons (eTup (aCons (eD (.str "0")) aNil)) (aCons (eTup (aCons (eD .none) aNil)) (aCons (eCallN 1 g__law_deep (aCons (eVar 0) aNil)) aNil)))))))))) (gN 8) l3__law_is_right)
noncomputable def l4__law_is_right : Ev := (eCallN 2 g__law_draw (aCons (eVar 0) (aCons (eCallN 2 g__law_any (aCons (eVar 0) (aCons (eLst false (aCons (eD (.int 3)) (aCons (eD (.int 1001)) aNil))) aNil))) aNil)))
noncomputable def t7__law_is_right : Sv := (sSet 9 (eCall fTuple (aCons (eLc false (iRange (aCons (eBin (oAdd false) (eD (.int 1)) (eCallN 2 g__law_draw (aCons (eVar 0) (aCons (eD (.int 12)) aNil)))) aNil)) (gN 15) tYesD l4__law_is_right [15]) aNil)))
noncomputable def t8__law_is_right : Sv := (sSet 10 (eCallN 2 g__law_work (aCons (eVar 9) (aCons (eVar 2) aNil))))
noncomputable def t9__law_is_right : Sv := (sIf (tOf (eBin oNe (eLst false (aCons (eCallN 2 g_at_work (aCons (eVar 9) (aCons (eVar 2) aNil))) (aCons (eCallN 2 g_at_work (aCons (eVar 9) (aCons (eVar 2) aNil))) aNil))) (eLst false (aCons (eVar 10) (aCons (eVar 10) aNil)))))
  (sRet (eD (.bool false)))
  sNil)
noncomputable def t10__law_is_right : Sv := (sSet 11 (eCallN 2 g__law_latest (aCons (eVar 1) (aCons (eVar 2) aNil))))
noncomputable def l5__law_is_right : Ev := (eBin (oAdd false) (eVar 16) (eCallN 2 g__law_draw (aCons (eVar 0) (aCons (eD (.int 3)) aNil))))
noncomputable def t11__law_is_right : Sv := (sSet 12 (eCall fTuple (aCons (eLc false (iSeq (eVar 11)) (gN 16) tYesD l5__law_is_right [16]) aNil)))
noncomputable def l6__law_is_right : Sv := (sCons (sSet 14 (eBin oSub (eCall fSumX (aCons (eCallN 2 g__law_work (aCons (eVar 13) (aCons (eVar 2) aNil))) aNil)) (eCall fSumX (aCons (eVar 1) aNil))))
  (sIf (tOf (eBin oNe (eLst false (aCons (eCallN 3 g_over_hours (aCons (eVar 1) (aCons (eVar 13) (aCons (eVar 2) aNil)))) (aCons (eCallN 3 g_over_hours (aCons (eVar 1) (aCons (eVar 13) (aCons (eVar 2) aNil)))) aNil))) (eLst false (aCons (eVar 14) (aCons (eVar 14) aNil)))))
  (sRet (eD (.bool false)))
  sNil))
noncomputable def t12__law_is_right : Sv := (sFor (iSeq (eTup (aCons (eVar 11) (aCons (eVar 12) aNil)))) (gN 13) l6__law_is_right)
noncomputable def t13__law_is_right : Sv := (sRet (eBin oEq (eCallN 3 g_over_hours (aCons (eVar 1) (aCons (eCallN 2 g_least_starts (aCons (eVar 1) (aCons (eVar 2) aNil))) (aCons (eVar 2) aNil)))) (eBin oSub (eCall fSumX (aCons (eCallN 2 g__law_work (aCons (eVar 11) (aCons (eVar 2) aNil))) aNil)) (eCall fSumX (aCons (eVar 1) aNil)))))
noncomputable def b__law_is_right : Sv := (sCons t0__law_is_right
  (sCons t1__law_is_right
  (sCons t2__law_is_right
  (sCons t3__law_is_right
  (sCons t4__law_is_right
  (sCons t5__law_is_right
  (sCons t6__law_is_right
  (sCons t7__law_is_right
  (sCons t8__law_is_right
  (sCons t9__law_is_right
  (sCons t10__law_is_right
  (sCons t11__law_is_right
  (sCons t12__law_is_right
  t13__law_is_right)))))))))))))
noncomputable def g__law_is_right : Fn := fnOf 17 b__law_is_right
theorem bd__law_is_right {P : Program} {w : World} {K : PySem.W.Frag} {mg : Str → Option Value} {base : Heap} (h : Hd τ K mg base) (f : Addr) (cdv : Value) (B : Around) (fs : List PySem.Env) (s : Shared) (H : Hp) (E : XK) (cc : Cc (cxD P w K mg base N__law_is_right "_law_is_right" s__law_is_right f cdv B fs s H E) (wD E) 6) : DB τ (cxD P w K mg base N__law_is_right "_law_is_right" s__law_is_right f cdv B fs s H E) (wD E) (defBody s__law_is_right) b__law_is_right :=
  (db_cons (ds_lc 3 false cc rfl rfl (by rfl) (di_seq (de_callD (ok__law_lots_apart h) cc (by decide) (by rfl) (da_cons (de_callB call_lenX ok_len (by rfl) h.z_len bb_len (da_cons (de_var 1) da_nil)) (da_cons (de_var 2) da_nil)))) (blkOk_by (N := N__law_is_right) (sc := defScope s__law_is_right) (own := [("lot", 5)]) (by decide +kernel)) (fun _ _ _ _ _ => (dg_name 5 cc.blk.nd rfl (.inl rfl))) (fun _ _ _ _ _ => dts_nil) (fun _ _ _ _ _ => (de_tup (da_cons (de_bin op_sub ok_sub de_int (de_callB (call_sumX cc.blk.calm) ok_sumX (by rfl) h.z_sum bb_sum (da_cons (de_lc false cc.blk (di_seq (de_var 5)) (blkOk_by (N := N__law_is_right) (own := [("hour", 15)]) (by first | decide +kernel | exact rfl)) (fun _ _ _ _ _ => (dg_name 15 cc.blk.blk.nd rfl (.inl rfl))) (fun _ _ _ _ _ => dts_nil) (fun _ _ _ _ _ => (de_ix (j := 0) (de_var 1) (de_var 15)))) da_nil))) (da_cons (de_var 5) da_nil)))))
  (db_cons (ds_set 4 cc.nd rfl (.inl rfl) (de_ix (j := 0) (de_callB (call_min1X cc.calm cc.hu) ok_min1 (by rfl) h.z_min bb_min (da_cons (de_var 3) da_nil)) de_int))
  (db_cons (ds_if (dt_cmp (op_neX cc.hu) ok_ne (de_lst false (da_cons (de_callD (ok_hours_apart h) cc (by decide) (by rfl) (da_cons (de_var 1) (da_cons (de_var 2) da_nil))) (da_cons (de_callD (ok_hours_apart h) cc (by decide) (by rfl) (da_cons (de_var 1) (da_cons (de_var 2) da_nil))) da_nil))) (de_lst false (da_cons (de_var 4) (da_cons (de_var 4) da_nil))) (nomark _))
  (db_one (ds_ret de_bl))
  db_nil)
  (db_cons (ds_set 5 cc.nd rfl (.inl rfl) (de_ix (j := 0) (de_callD (ok__law_any h) cc (by decide) (by rfl) (da_cons (de_var 0) (da_cons (de_var 3) da_nil))) de_int))
  (db_cons (ds_set 6 cc.nd rfl (.inl rfl) (de_callTy call_tuple_of ok_tuple (by rfl) h.z_tuple bb_tuple (da_cons (de_srtSet false cc.calm (by rfl) h.z_sorted (by rfl) h.z_set (de_lc false cc (di_range1 (by rfl) h.z_range (da_cons (de_callD (ok__law_draw h) cc (by decide) (by rfl) (da_cons (de_var 0) (da_cons de_int da_nil))) da_nil)) (blkOk_by (N := N__law_is_right) (sc := defScope s__law_is_right) (own := [("hour", 15)]) (by decide +kernel)) (fun _ _ _ _ _ => (dg_name 15 cc.blk.nd rfl (.inl rfl))) (fun _ _ _ _ _ => dts_nil) (fun _ _ _ _ _ => (de_callD (ok__law_draw h) cc.blk (by decide) (by rfl) (da_cons (de_var 0) (da_cons (de_callB call_lenX ok_len (by rfl) h.z_len bb_len (da_cons (de_var 1) da_nil)) da_nil)))))) da_nil)))
  (db_cons (ds_set 7 cc.nd rfl (.inl rfl) (de_lst false (da_cons (de_var 4) (da_cons (de_var 5) (da_cons (de_var 6) (da_cons (de_callTy call_list_of ok_list (by rfl) h.z_list bb_list (da_cons (de_var 5) da_nil)) (da_cons (de_bin op_addX ok_add (de_var 5) (de_tup (da_cons (de_callB call_lenX ok_len (by rfl) h.z_len bb_len (da_cons (de_var 1) da_nil)) da_nil))) (da_cons (de_bin op_addX ok_add (de_tup (da_cons (de_un un_neg ok_neg de_int) da_nil)) (de_var 5)) (da_cons (de_rev false (de_var 6)) (da_cons (de_bin op_addX ok_add (de_var 6) (de_var 6)) (da_cons de_non (da_cons de_int da_nil))))))))))))
  (db_cons (ds_for cc (di_seq (de_bin op_addX ok_add (de_var 7) (de_lst false (da_cons de_str (da_cons (de_dic0 false) (da_cons (de_tup da_nil) (da_cons (de_tup (da_cons de_bl da_nil)) (da_cons (de_tup (da_cons de_str da_nil)) (da_cons (de_tup (da_cons de_non da_nil)) (da_cons (de_callD (ok__law_deep h) cc (by decide) (by rfl) (da_cons (de_var 0) da_nil)) da_nil)))))))))) (dg_name 8 cc.nd rfl (.inl rfl))
  (db_one (ds_if (dt_cmp (op_neX cc.hu) ok_ne (de_callB (call_reprA cc.gd cc.hu) ok_reprX (by rfl) h.z_repr bb_repr (da_cons (de_callD (ok_is_hours_apart h) cc (by decide) (by rfl) (da_cons (de_var 1) (da_cons (de_var 2) (da_cons (de_var 8) da_nil)))) da_nil)) (de_callB (call_reprA cc.gd cc.hu) ok_reprX (by rfl) h.z_repr bb_repr (da_cons (de_callD (ok__law_is_apart h) cc (by decide) (by rfl) (da_cons (de_var 1) (da_cons (de_var 2) (da_cons (de_var 8) da_nil)))) da_nil)) (nomark _))
  (db_one (ds_ret de_bl))
  db_nil)))
  (db_cons (ds_set 9 cc.nd rfl (.inl rfl) (de_callTy call_tuple_of ok_tuple (by rfl) h.z_tuple bb_tuple (da_cons (de_lc false cc (di_range1 (by rfl) h.z_range (da_cons (de_bin op_addX ok_add de_int (de_callD (ok__law_draw h) cc (by decide) (by rfl) (da_cons (de_var 0) (da_cons de_int da_nil)))) da_nil)) (blkOk_by (N := N__law_is_right) (sc := defScope s__law_is_right) (own := [("hour", 15)]) (by decide +kernel)) (fun _ _ _ _ _ => (dg_name 15 cc.blk.nd rfl (.inl rfl))) (fun _ _ _ _ _ => dts_nil) (fun _ _ _ _ _ => (de_callD (ok__law_draw h) cc.blk (by decide) (by rfl) (da_cons (de_var 0) (da_cons (de_callD (ok__law_any h) cc.blk (by decide) (by rfl) (da_cons (de_var 0) (da_cons (de_lst false (da_cons de_int (da_cons de_int da_nil))) da_nil))) da_nil))))) da_nil)))
  (db_cons (ds_set 10 cc.nd rfl (.inl rfl) (de_callD (ok__law_work h) cc (by decide) (by rfl) (da_cons (de_var 9) (da_cons (de_var 2) da_nil))))
  (db_cons (ds_if (dt_cmp (op_neX cc.hu) ok_ne (de_lst false (da_cons (de_callD (ok_at_work h) cc (by decide) (by rfl) (da_cons (de_var 9) (da_cons (de_var 2) da_nil))) (da_cons (de_callD (ok_at_work h) cc (by decide) (by rfl) (da_cons (de_var 9) (da_cons (de_var 2) da_nil))) da_nil))) (de_lst false (da_cons (de_var 10) (da_cons (de_var 10) da_nil))) (nomark _))
  (db_one (ds_ret de_bl))
  db_nil)
  (db_cons (ds_set 11 cc.nd rfl (.inl rfl) (de_callD (ok__law_latest h) cc (by decide) (by rfl) (da_cons (de_var 1) (da_cons (de_var 2) da_nil))))
  (db_cons (ds_set 12 cc.nd rfl (.inl rfl) (de_callTy call_tuple_of ok_tuple (by rfl) h.z_tuple bb_tuple (da_cons (de_lc false cc (di_seq (de_var 11)) (blkOk_by (N := N__law_is_right) (sc := defScope s__law_is_right) (own := [("one", 16)]) (by decide +kernel)) (fun _ _ _ _ _ => (dg_name 16 cc.blk.nd rfl (.inl rfl))) (fun _ _ _ _ _ => dts_nil) (fun _ _ _ _ _ => (de_bin op_addX ok_add (de_var 16) (de_callD (ok__law_draw h) cc.blk (by decide) (by rfl) (da_cons (de_var 0) (da_cons de_int da_nil)))))) da_nil)))
  (db_cons (ds_for cc (di_seq (de_tup (da_cons (de_var 11) (da_cons (de_var 12) da_nil)))) (dg_name 13 cc.nd rfl (.inl rfl))
  (db_cons (ds_set 14 cc.nd rfl (.inl rfl) (de_bin op_sub ok_sub (de_callB (call_sumX cc.calm) ok_sumX (by rfl) h.z_sum bb_sum (da_cons (de_callD (ok__law_work h) cc (by decide) (by rfl) (da_cons (de_var 13) (da_cons (de_var 2) da_nil))) da_nil)) (de_callB (call_sumX cc.calm) ok_sumX (by rfl) h.z_sum bb_sum (da_cons (de_var 1) da_nil))))
  (db_one (ds_if (dt_cmp (op_neX cc.hu) ok_ne (de_lst false (da_cons (de_callD (ok_over_hours h) cc (by decide) (by rfl) (da_cons (de_var 1) (da_cons (de_var 13) (da_cons (de_var 2) da_nil)))) (da_cons (de_callD (ok_over_hours h) cc (by decide) (by rfl) (da_cons (de_var 1) (da_cons (de_var 13) (da_cons (de_var 2) da_nil)))) da_nil))) (de_lst false (da_cons (de_var 14) (da_cons (de_var 14) da_nil))) (nomark _))
  (db_one (ds_ret de_bl))
  db_nil))))
  (db_one (ds_ret (de_cmp (op_eqX cc.hu) ok_eq (de_callD (ok_over_hours h) cc (by decide) (by rfl) (da_cons (de_var 1) (da_cons (de_callD (ok_least_starts h) cc (by decide) (by rfl) (da_cons (de_var 1) (da_cons (de_var 2) da_nil))) (da_cons (de_var 2) da_nil)))) (de_bin op_sub ok_sub (de_callB (call_sumX cc.calm) ok_sumX (by rfl) h.z_sum bb_sum (da_cons (de_callD (ok__law_work h) cc (by decide) (by rfl) (da_cons (de_var 11) (da_cons (de_var 2) da_nil))) da_nil)) (de_callB (call_sumX cc.calm) ok_sumX (by rfl) h.z_sum bb_sum (da_cons (de_var 1) da_nil))) (nomark _)))))))))))))))))
theorem bi__law_is_right (kV doc pm : Value) (an : Option Addr) (cdv ct : Value) (us : List Value) (hl : us.length = 3) : bindArgs (PySem.W.fnOf "_law_is_right" "_law_is_right" (defArgs s__law_is_right) (defBody s__law_is_right) (defScope s__law_is_right) .none kV doc pm an cdv ct) ⟨us, []⟩ = pure ((["hand", "needs", "length"] : List Str).zip us) := match us, hl with | [_, _, _], _ => rfl
theorem ok__law_is_right {P : Program} {w : World} {K : PySem.W.Frag} {mg : Str → Option Value} {base : Heap} (h : Hd τ K mg base) : DefOk τ P w K mg base 7 3 "_law_is_right" g__law_is_right :=
  def_ok (b := b__law_is_right) (N := N__law_is_right) (ps := ["hand", "needs", "length"]) (st := s__law_is_right) h.d__law_is_right sc__law_is_right rfl bi__law_is_right (bd__law_is_right h)
abbrev N__law_no_needs : List Str := ["hand", "some"]
theorem sc__law_no_needs : FnScope N__law_no_needs ["hand"] (defScope s__law_no_needs) := ⟨rfl, rfl, rfl, by decide +kernel, rfl, by decide +kernel, by decide +kernel⟩
noncomputable def b__law_no_needs : Sv := (sCons (sSet 1 (eLst false (aCons (eD .none) (aCons (eTup aNil) (aCons (eLst false (aCons (eD (.int 1)) aNil)) (aCons (eTup (aCons (eD (.int 21)) aNil)) (aCons (eTup (aCons (eUn oNeg (eD (.int 1))) aNil)) (aCons (eTup (aCons (eD (.bool true)) aNil)) (aCons (eTup (aCons (eD (.str "1")) aNil)) (aCons (eBin (oMulT false) (eTup (aCons (eD (.int 1)) aNil)) (eD (.int 25))) (aCons (eD (.int 1)) (aCons (eD (.str "x")) (aCons (eDic0 false) (aCons (eTup (aCons (eD .none) aNil)) aNil))))))))))))))
  (sRet (eCallN 2 g__law_any (aCons (eVar 0) (aCons (eBin (oAdd false) (eVar 1) (eLst false (aCons (eCallN 1 g__law_deep (aCons (eVar 0) aNil)) aNil))) aNil)))))
noncomputable def g__law_no_needs : Fn := fnOf 2 b__law_no_needs
theorem bd__law_no_needs {P : Program} {w : World} {K : PySem.W.Frag} {mg : Str → Option Value} {base : Heap} (h : Hd τ K mg base) (f : Addr) (cdv : Value) (B : Around) (fs : List PySem.Env) (s : Shared) (H : Hp) (E : XK) (cc : Cc (cxD P w K mg base N__law_no_needs "_law_no_needs" s__law_no_needs f cdv B fs s H E) (wD E) 3) : DB τ (cxD P w K mg base N__law_no_needs "_law_no_needs" s__law_no_needs f cdv B fs s H E) (wD E) (defBody s__law_no_needs) b__law_no_needs :=
  (db_cons (ds_set 1 cc.nd rfl (.inl rfl) (de_lst false (da_cons de_non (da_cons (de_tup da_nil) (da_cons (de_lst false (da_cons de_int da_nil)) (da_cons (de_tup (da_cons de_int da_nil)) (da_cons (de_tup (da_cons (de_un un_neg ok_neg de_int) da_nil)) (da_cons (de_tup (da_cons de_bl da_nil)) (da_cons (de_tup (da_cons de_str da_nil)) (da_cons (de_bin op_mulT ok_mulT (de_tup (da_cons de_int da_nil)) de_int) (da_cons de_int (da_cons de_str (da_cons (de_dic0 false) (da_cons (de_tup (da_cons de_non da_nil)) da_nil))))))))))))))
  (db_one (ds_ret (de_callD (ok__law_any h) cc (by decide) (by rfl) (da_cons (de_var 0) (da_cons (de_bin op_addX ok_add (de_var 1) (de_lst false (da_cons (de_callD (ok__law_deep h) cc (by decide) (by rfl) (da_cons (de_var 0) da_nil)) da_nil))) da_nil))))))
theorem bi__law_no_needs (kV doc pm : Value) (an : Option Addr) (cdv ct : Value) (us : List Value) (hl : us.length = 1) : bindArgs (PySem.W.fnOf "_law_no_needs" "_law_no_needs" (defArgs s__law_no_needs) (defBody s__law_no_needs) (defScope s__law_no_needs) .none kV doc pm an cdv ct) ⟨us, []⟩ = pure ((["hand"] : List Str).zip us) := match us, hl with | [_], _ => rfl
theorem ok__law_no_needs {P : Program} {w : World} {K : PySem.W.Frag} {mg : Str → Option Value} {base : Heap} (h : Hd τ K mg base) : DefOk τ P w K mg base 4 1 "_law_no_needs" g__law_no_needs :=
  def_ok (b := b__law_no_needs) (N := N__law_no_needs) (ps := ["hand"]) (st := s__law_no_needs) h.d__law_no_needs sc__law_no_needs rfl bi__law_no_needs (bd__law_no_needs h)
abbrev N__law_said : List Str := ["call", "e", "flags"]
theorem sc__law_said : FnScope N__law_said ["call"] (defScope s__law_said) := ⟨rfl, rfl, rfl, by decide +kernel, rfl, by decide +kernel, by decide +kernel⟩
noncomputable def b__law_said (act : Ev) : Sv := (sCons (sTryAs 1
  (sExpr act)
  sub_FieldError (fun a y => (sCons (sSet 2 (eLst false (aCons (eIsK 1 a (kit_NoNeeds y.cls)) (aCons (eIsK 1 a (kit_NoNumber y.cls)) (aCons (eIsK 1 a (kit_NoStarts y.cls)) aNil)))))
  (sCons (sIf (tAnd (tOf (eBin oEq (eMet vCount (eVar 2) (eD (.bool true))) (eD (.int 1)))) (tOf (eIsK 1 a (kit_ValueError y.cls))))
  (sRet (eBin oIx (eLst false (aCons (eD (.str "needs")) (aCons (eD (.str "number")) (aCons (eD (.str "starts")) aNil)))) (eMet vIndex (eVar 2) (eD (.bool true)))))
  sNil)
  (sRet (eD (.str "other")))))))
  (sRet (eD (.str "let"))))
noncomputable def g__law_said (act : Ev) : Fn := fnOf 3 (b__law_said act)
theorem bd__law_said {P : Program} {w : World} {K : PySem.W.Frag} {mg : Str → Option Value} {base : Heap} (h : Hd τ K mg base) (f : Addr) (cdv : Value) (B : Around) (fs : List PySem.Env) (s : Shared) (H : Hp) (E : XK) (act : Ev) (cc : Cc (cxD P w K mg base N__law_said "_law_said" s__law_said f cdv B fs s H E) (wD E) 0) (ha : ∀ (W : WX) (pn : List (Addr × Obj)) (xe : Value → Shared → Prop) (p1 p2 : Pos), Takes ((cxD P w K mg base N__law_said "_law_said" s__law_said f cdv B fs s H E).tr pn xe) W → DE τ ((cxD P w K mg base N__law_said "_law_said" s__law_said f cdv B fs s H E).tr pn xe) W (.Call (.Name "call" p1) [] [] p2) act) : DB τ (cxD P w K mg base N__law_said "_law_said" s__law_said f cdv B fs s H E) (wD E) (defBody s__law_said) (b__law_said act) :=
  (db_cons (ds_tryF cc h.y_FieldError rfl (by rfl) (by rfl) (fun W' pn xe tk cc2 =>
  (db_one (ds_expr (ha _ _ _ _ _ tk))))
  (fun a oe y cls pn hy hz hf =>
  (db_cons (ds_set 2 cc.nd rfl (.inl rfl) (de_lst false (da_cons (de_isK h.i_NoNeeds (by rfl) hy hz hf rfl (by rfl) h.z_isinstance) (da_cons (de_isK h.i_NoNumber (by rfl) hy hz hf rfl (by rfl) h.z_isinstance) (da_cons (de_isK h.i_NoStarts (by rfl) hy hz hf rfl (by rfl) h.z_isinstance) da_nil)))))
  (db_cons (ds_if (DW.t (dw_and (dt_cmp (op_eqX cc.hu) ok_eq (de_met PySem.F.slot_list_count PySem.F.type_list_count (mt_countX cc.hu) ok_count (de_var 2) (da_cons de_bl da_nil)) de_int (nomark _)) (dw_one (dt_val (de_isK h.i_ValueError (by rfl) hy hz hf rfl (by rfl) h.z_isinstance)))))
  (db_one (ds_ret (de_ix (j := 0) (de_lst false (da_cons de_str (da_cons de_str (da_cons de_str da_nil)))) (de_met PySem.F.slot_list_index PySem.F.type_list_index (mt_indexX cc.hu) ok_index (de_var 2) (da_cons de_bl da_nil)))))
  db_nil)
  (db_one (ds_ret de_str))))))
  (db_one (ds_ret de_str)))
theorem bi__law_said (kV doc pm : Value) (an : Option Addr) (cdv ct : Value) (us : List Value) (hl : us.length = 1) : bindArgs (PySem.W.fnOf "_law_said" "_law_said" (defArgs s__law_said) (defBody s__law_said) (defScope s__law_said) .none kV doc pm an cdv ct) ⟨us, []⟩ = pure ((["call"] : List Str).zip us) := match us, hl with | [_], _ => rfl
theorem ok__law_said {P : Program} {w : World} {K : PySem.W.Frag} {mg : Str → Option Value} {base : Heap} (h : Hd τ K mg base) : LamOk τ P w K mg base 0 "_law_said" g__law_said :=
  lam_ok (b := b__law_said) (N := N__law_said) (st := s__law_said) h.d__law_said sc__law_said rfl (.inl rfl) (by decide) (by decide) (fun _ => rfl) bi__law_said (bd__law_said h)
abbrev N__law_are_refused : List Str := ["hand", "needs", "none", "bad", "starts", "enough", "words", "due"]
theorem sc__law_are_refused : FnScope N__law_are_refused ["hand", "needs"] (defScope s__law_are_refused) := ⟨rfl, rfl, rfl, by decide +kernel, rfl, by decide +kernel, by decide +kernel⟩
noncomputable def t0__law_are_refused : Sv := (sPar [(gN 2), (gN 3)] (aCons (eCallN 1 g__law_no_needs (aCons (eVar 0) aNil)) (aCons (eCallN 2 g__law_any (aCons (eVar 0) (aCons (eLst false (aCons (eD (.int 0)) (aCons (eD (.int 25)) (aCons (eUn oNeg (eD (.int 1))) (aCons (eD .none) (aCons (eD (.bool true)) (aCons (eD (.str "2")) aNil))))))) aNil))) aNil)))
noncomputable def t1__law_are_refused : Sv := (sSet 4 (eCallN 2 g__law_any (aCons (eVar 0) (aCons (eLst false (aCons (eD .none) (aCons (eTup aNil) (aCons (eLst false (aCons (eD (.int 1)) aNil)) (aCons (eTup (aCons (eUn oNeg (eD (.int 1))) aNil)) (aCons (eTup (aCons (eD (.int 1001)) aNil)) (aCons (eTup (aCons (eD (.bool true)) aNil)) (aCons (eTup (aCons (eD (.str "1")) aNil)) (aCons (eBin (oMulT false) (eTup (aCons (eD (.int 1)) aNil)) (eD (.int 25))) (aCons (eD (.int 1)) (aCons (eD (.str "x")) (aCons (eDic0 false) (aCons (eCallN 1 g__law_deep (aCons (eVar 0) aNil)) aNil))))))))))))) aNil))))
noncomputable def t2__law_are_refused : Sv := (sSet 5 (eBin (oMulT false) (eTup (aCons (eD (.int 20)) aNil)) (eCall fLen (aCons (eVar 1) aNil))))
noncomputable def l0__law_are_refused : Ev := (eCallN 2 g_hours_apart (aCons (eVar 2) (aCons (eVar 3) aNil)))
noncomputable def l1__law_are_refused : Ev := (eCallN 2 g_hours_apart (aCons (eVar 1) (aCons (eVar 3) aNil)))
noncomputable def t3__law_are_refused : Sv := (sSet 6 (eLst true (aCons (eLam g__law_said l0__law_are_refused) (aCons (eLam g__law_said l1__law_are_refused) aNil))))
noncomputable def l2__law_are_refused : Ev := (eCallN 3 g_is_hours_apart (aCons (eVar 2) (aCons (eVar 3) (aCons (eTup aNil) aNil))))
noncomputable def t4__law_are_refused : Sv := (sExpr (eApp (eVar 6) (eLam g__law_said l2__law_are_refused)))
noncomputable def l3__law_are_refused : Ev := (eCallN 3 g_is_hours_apart (aCons (eVar 1) (aCons (eVar 3) (aCons (eTup aNil) aNil))))
noncomputable def t5__law_are_refused : Sv := (sExpr (eApp (eVar 6) (eLam g__law_said l3__law_are_refused)))
noncomputable def l4__law_are_refused : Ev := (eCallN 2 g_at_work (aCons (eVar 4) (aCons (eVar 3) aNil)))
noncomputable def t6__law_are_refused : Sv := (sExpr (eApp (eVar 6) (eLam g__law_said l4__law_are_refused)))
noncomputable def l5__law_are_refused : Ev := (eCallN 2 g_at_work (aCons (eTup (aCons (eD (.int 1)) (aCons (eD (.int 2)) aNil))) (aCons (eVar 3) aNil)))
noncomputable def t7__law_are_refused : Sv := (sExpr (eApp (eVar 6) (eLam g__law_said l5__law_are_refused)))
noncomputable def l6__law_are_refused : Ev := (eCallN 3 g_over_hours (aCons (eVar 2) (aCons (eVar 4) (aCons (eVar 3) aNil))))
noncomputable def t8__law_are_refused : Sv := (sExpr (eApp (eVar 6) (eLam g__law_said l6__law_are_refused)))
noncomputable def l7__law_are_refused : Ev := (eCallN 3 g_over_hours (aCons (eVar 1) (aCons (eVar 4) (aCons (eVar 3) aNil))))
noncomputable def t9__law_are_refused : Sv := (sExpr (eApp (eVar 6) (eLam g__law_said l7__law_are_refused)))
noncomputable def l8__law_are_refused : Ev := (eCallN 3 g_over_hours (aCons (eVar 1) (aCons (eBin (oAdd false) (eVar 5) (eTup (aCons (eD (.int 1)) aNil))) (aCons (eD (.int 1)) aNil))))
noncomputable def t10__law_are_refused : Sv := (sExpr (eApp (eVar 6) (eLam g__law_said l8__law_are_refused)))
noncomputable def l9__law_are_refused : Ev := (eCallN 3 g_over_hours (aCons (eBin (oAdd false) (eTup (aCons (eD (.int 1)) aNil)) (eSl false (eVar 1) (pAt (eD (.int 1))) pNo)) (aCons (eBin (oMulT false) (eTup (aCons (eD (.int 0)) aNil)) (eCall fLen (aCons (eVar 1) aNil))) (aCons (eD (.int 1)) aNil))))
noncomputable def t11__law_are_refused : Sv := (sExpr (eApp (eVar 6) (eLam g__law_said l9__law_are_refused)))
noncomputable def l10__law_are_refused : Ev := (eCallN 3 g_over_hours (aCons (eVar 1) (aCons (eVar 5) (aCons (eVar 3) aNil))))
noncomputable def t12__law_are_refused : Sv := (sExpr (eApp (eVar 6) (eLam g__law_said l10__law_are_refused)))
noncomputable def t13__law_are_refused : Sv := (sSet 7 (eBin (oAdd false) (eBin (oMul false) (eLst false (aCons (eD (.str "needs")) (aCons (eD (.str "number")) aNil))) (eD (.int 2))) (eLst false (aCons (eD (.str "starts")) (aCons (eD (.str "number")) (aCons (eD (.str "needs")) (aCons (eD (.str "starts")) (aCons (eD (.str "starts")) (aCons (eD (.str "starts")) (aCons (eD (.str "number")) aNil))))))))))
noncomputable def t14__law_are_refused : Sv := (sRet (eBin oEq (eVar 6) (eVar 7)))
noncomputable def b__law_are_refused : Sv := (sCons t0__law_are_refused
  (sCons t1__law_are_refused
  (sCons t2__law_are_refused
  (sCons t3__law_are_refused
  (sCons t4__law_are_refused
  (sCons t5__law_are_refused
  (sCons t6__law_are_refused
  (sCons t7__law_are_refused
  (sCons t8__law_are_refused
  (sCons t9__law_are_refused
  (sCons t10__law_are_refused
  (sCons t11__law_are_refused
  (sCons t12__law_are_refused
  (sCons t13__law_are_refused
  t14__law_are_refused))))))))))))))
noncomputable def g__law_are_refused : Fn := fnOf 8 b__law_are_refused
theorem bd__law_are_refused {P : Program} {w : World} {K : PySem.W.Frag} {mg : Str → Option Value} {base : Heap} (h : Hd τ K mg base) (f : Addr) (cdv : Value) (B : Around) (fs : List PySem.Env) (s : Shared) (H : Hp) (E : XK) (lh : Lh τ (cxD P w K mg base N__law_are_refused "_law_are_refused" s__law_are_refused f cdv B fs s H E)) (cc : Cc (cxD P w K mg base N__law_are_refused "_law_are_refused" s__law_are_refused f cdv B fs s H E) (wD E) 8) : DB τ (cxD P w K mg base N__law_are_refused "_law_are_refused" s__law_are_refused f cdv B fs s H E) (wD E) (defBody s__law_are_refused) b__law_are_refused :=
  (db_cons (ds_parT (n := 2) cc.calm (da_cons (de_callD (ok__law_no_needs h) cc (by decide) (by rfl) (da_cons (de_var 0) da_nil)) (da_cons (de_callD (ok__law_any h) cc (by decide) (by rfl) (da_cons (de_var 0) (da_cons (de_lst false (da_cons de_int (da_cons de_int (da_cons (de_un un_neg ok_neg de_int) (da_cons de_non (da_cons de_bl (da_cons de_str da_nil))))))) da_nil))) da_nil)) (dgs_cons (dg_name 2 cc.nd rfl (.inr rfl)) (dgs_cons (dg_name 3 cc.nd rfl (.inr rfl)) dgs_nil)))
  (db_cons (ds_set 4 cc.nd rfl (.inr rfl) (de_callD (ok__law_any h) cc (by decide) (by rfl) (da_cons (de_var 0) (da_cons (de_lst false (da_cons de_non (da_cons (de_tup da_nil) (da_cons (de_lst false (da_cons de_int da_nil)) (da_cons (de_tup (da_cons (de_un un_neg ok_neg de_int) da_nil)) (da_cons (de_tup (da_cons de_int da_nil)) (da_cons (de_tup (da_cons de_bl da_nil)) (da_cons (de_tup (da_cons de_str da_nil)) (da_cons (de_bin op_mulT ok_mulT (de_tup (da_cons de_int da_nil)) de_int) (da_cons de_int (da_cons de_str (da_cons (de_dic0 false) (da_cons (de_callD (ok__law_deep h) cc (by decide) (by rfl) (da_cons (de_var 0) da_nil)) da_nil))))))))))))) da_nil))))
  (db_cons (ds_set 5 cc.nd rfl (.inr rfl) (de_bin op_mulT ok_mulT (de_tup (da_cons de_int da_nil)) (de_callB call_lenX ok_len (by rfl) h.z_len bb_len (da_cons (de_var 1) da_nil))))
  (db_cons (ds_set 6 cc.nd rfl (.inl rfl) (de_lst true (da_cons (de_lam (ok__law_said h) cc lh (by decide) (Nat.le_refl _) (by rfl) (lamN_by (N := N__law_are_refused) (sc := defScope s__law_are_refused) (ns := []) (by decide +kernel)) (.none rfl (fun _ _ _ _ _ _ _ => .of_eq rfl)) (fun A outer s H E f c' cl => (de_callD (ok_hours_apart h) cl (by decide) (by rfl) (da_cons (de_var 2) (da_cons (de_var 3) da_nil))))) (da_cons (de_lam (ok__law_said h) cc lh (by decide) (Nat.le_refl _) (by rfl) (lamN_by (N := N__law_are_refused) (sc := defScope s__law_are_refused) (ns := ["again"]) (by decide +kernel)) (.int rfl rfl (fun _ _ _ T _ _ _ _ v hT => .of_defaults rfl hT rfl rfl rfl)) (fun A outer s H E f c' cl => (de_callD (ok_hours_apart h) cl (by decide) (by rfl) (da_cons (de_var 1) (da_cons (de_var 3) da_nil))))) da_nil))))
  (db_cons (ds_expr (de_append (de_var 6) (da_cons (de_lam (ok__law_said h) cc lh (by decide) (Nat.le_refl _) (by rfl) (lamN_by (N := N__law_are_refused) (sc := defScope s__law_are_refused) (ns := []) (by decide +kernel)) (.none rfl (fun _ _ _ _ _ _ _ => .of_eq rfl)) (fun A outer s H E f c' cl => (de_callD (ok_is_hours_apart h) cl (by decide) (by rfl) (da_cons (de_var 2) (da_cons (de_var 3) (da_cons (de_tup da_nil) da_nil)))))) da_nil)))
  (db_cons (ds_expr (de_append (de_var 6) (da_cons (de_lam (ok__law_said h) cc lh (by decide) (Nat.le_refl _) (by rfl) (lamN_by (N := N__law_are_refused) (sc := defScope s__law_are_refused) (ns := []) (by decide +kernel)) (.none rfl (fun _ _ _ _ _ _ _ => .of_eq rfl)) (fun A outer s H E f c' cl => (de_callD (ok_is_hours_apart h) cl (by decide) (by rfl) (da_cons (de_var 1) (da_cons (de_var 3) (da_cons (de_tup da_nil) da_nil)))))) da_nil)))
  (db_cons (ds_expr (de_append (de_var 6) (da_cons (de_lam (ok__law_said h) cc lh (by decide) (Nat.le_refl _) (by rfl) (lamN_by (N := N__law_are_refused) (sc := defScope s__law_are_refused) (ns := []) (by decide +kernel)) (.none rfl (fun _ _ _ _ _ _ _ => .of_eq rfl)) (fun A outer s H E f c' cl => (de_callD (ok_at_work h) cl (by decide) (by rfl) (da_cons (de_var 4) (da_cons (de_var 3) da_nil))))) da_nil)))
  (db_cons (ds_expr (de_append (de_var 6) (da_cons (de_lam (ok__law_said h) cc lh (by decide) (Nat.le_refl _) (by rfl) (lamN_by (N := N__law_are_refused) (sc := defScope s__law_are_refused) (ns := []) (by decide +kernel)) (.none rfl (fun _ _ _ _ _ _ _ => .of_eq rfl)) (fun A outer s H E f c' cl => (de_callD (ok_at_work h) cl (by decide) (by rfl) (da_cons (de_tup (da_cons de_int (da_cons de_int da_nil))) (da_cons (de_var 3) da_nil))))) da_nil)))
  (db_cons (ds_expr (de_append (de_var 6) (da_cons (de_lam (ok__law_said h) cc lh (by decide) (Nat.le_refl _) (by rfl) (lamN_by (N := N__law_are_refused) (sc := defScope s__law_are_refused) (ns := []) (by decide +kernel)) (.none rfl (fun _ _ _ _ _ _ _ => .of_eq rfl)) (fun A outer s H E f c' cl => (de_callD (ok_over_hours h) cl (by decide) (by rfl) (da_cons (de_var 2) (da_cons (de_var 4) (da_cons (de_var 3) da_nil)))))) da_nil)))
  (db_cons (ds_expr (de_append (de_var 6) (da_cons (de_lam (ok__law_said h) cc lh (by decide) (Nat.le_refl _) (by rfl) (lamN_by (N := N__law_are_refused) (sc := defScope s__law_are_refused) (ns := []) (by decide +kernel)) (.none rfl (fun _ _ _ _ _ _ _ => .of_eq rfl)) (fun A outer s H E f c' cl => (de_callD (ok_over_hours h) cl (by decide) (by rfl) (da_cons (de_var 1) (da_cons (de_var 4) (da_cons (de_var 3) da_nil)))))) da_nil)))
  (db_cons (ds_expr (de_append (de_var 6) (da_cons (de_lam (ok__law_said h) cc lh (by decide) (Nat.le_refl _) (by rfl) (lamN_by (N := N__law_are_refused) (sc := defScope s__law_are_refused) (ns := []) (by decide +kernel)) (.none rfl (fun _ _ _ _ _ _ _ => .of_eq rfl)) (fun A outer s H E f c' cl => (de_callD (ok_over_hours h) cl (by decide) (by rfl) (da_cons (de_var 1) (da_cons (de_bin op_addX ok_add (de_var 5) (de_tup (da_cons de_int da_nil))) (da_cons de_int da_nil)))))) da_nil)))
  (db_cons (ds_expr (de_append (de_var 6) (da_cons (de_lam (ok__law_said h) cc lh (by decide) (Nat.le_refl _) (by rfl) (lamN_by (N := N__law_are_refused) (sc := defScope s__law_are_refused) (ns := []) (by decide +kernel)) (.none rfl (fun _ _ _ _ _ _ _ => .of_eq rfl)) (fun A outer s H E f c' cl => (de_callD (ok_over_hours h) cl (by decide) (by rfl) (da_cons (de_bin op_addX ok_add (de_tup (da_cons de_int da_nil)) (de_sl false (de_var 1) (dp_at de_int) dp_no)) (da_cons (de_bin op_mulT ok_mulT (de_tup (da_cons de_int da_nil)) (de_callB call_lenX ok_len (by rfl) h.z_len bb_len (da_cons (de_var 1) da_nil))) (da_cons de_int da_nil)))))) da_nil)))
  (db_cons (ds_expr (de_append (de_var 6) (da_cons (de_lam (ok__law_said h) cc lh (by decide) (Nat.le_refl _) (by rfl) (lamN_by (N := N__law_are_refused) (sc := defScope s__law_are_refused) (ns := []) (by decide +kernel)) (.none rfl (fun _ _ _ _ _ _ _ => .of_eq rfl)) (fun A outer s H E f c' cl => (de_callD (ok_over_hours h) cl (by decide) (by rfl) (da_cons (de_var 1) (da_cons (de_var 5) (da_cons (de_var 3) da_nil)))))) da_nil)))
  (db_cons (ds_set 7 cc.nd rfl (.inl rfl) (de_bin op_addX ok_add (de_bin op_mulX' ok_mul (de_lst false (da_cons de_str (da_cons de_str da_nil))) de_int) (de_lst false (da_cons de_str (da_cons de_str (da_cons de_str (da_cons de_str (da_cons de_str (da_cons de_str (da_cons de_str da_nil))))))))))
  (db_one (ds_ret (de_cmp (op_eqX cc.hu) ok_eq (de_var 6) (de_var 7) (nomark _))))))))))))))))))
theorem bi__law_are_refused (kV doc pm : Value) (an : Option Addr) (cdv ct : Value) (us : List Value) (hl : us.length = 2) : bindArgs (PySem.W.fnOf "_law_are_refused" "_law_are_refused" (defArgs s__law_are_refused) (defBody s__law_are_refused) (defScope s__law_are_refused) .none kV doc pm an cdv ct) ⟨us, []⟩ = pure ((["hand", "needs"] : List Str).zip us) := match us, hl with | [_, _], _ => rfl
theorem ok__law_are_refused {P : Program} {w : World} {K : PySem.W.Frag} {mg : Str → Option Value} {base : Heap} (h : Hd τ K mg base) : DefOk τ P w K mg base 9 2 "_law_are_refused" g__law_are_refused :=
  def_okL (b := b__law_are_refused) (N := N__law_are_refused) (ps := ["hand", "needs"]) (st := s__law_are_refused) h.d__law_are_refused sc__law_are_refused rfl bi__law_are_refused (bd__law_are_refused h)
abbrev N_law : List Str := ["script", "hand", "lap", "needs"]
theorem sc_law : FnScope N_law ["script"] (defScope s_law) := ⟨rfl, rfl, rfl, by decide +kernel, rfl, by decide +kernel, by decide +kernel⟩
noncomputable def t0_law : Sv := (sSet 1 (eCallN 1 g__law_hand (aCons (eVar 0) aNil)))
noncomputable def t1_law : Sv := (sIf (tOr (tOf (eBin oNe (eCallN 2 g_hours_apart (aCons (eTup (aCons (eD (.int 3)) (aCons (eD (.int 4)) (aCons (eD (.int 3)) aNil)))) (aCons (eD (.int 2)) aNil))) (eTup (aCons (eD (.int 0)) (aCons (eD (.int 2)) aNil))))) (tOf (eBin oNe (eCallN 2 g_at_work (aCons (eTup (aCons (eD (.int 1)) (aCons (eD (.int 0)) (aCons (eD (.int 2)) aNil)))) (aCons (eD (.int 2)) aNil))) (eTup (aCons (eD (.int 1)) (aCons (eD (.int 1)) (aCons (eD (.int 2)) aNil)))))))
  (sRet (eD (.bool false)))
  sNil)
noncomputable def t2_law : Sv := (sIf (tOf (eBin oNe (eCallN 3 g_over_hours (aCons (eTup (aCons (eD (.int 1)) (aCons (eD (.int 1)) aNil))) (aCons (eTup (aCons (eD (.int 1)) (aCons (eD (.int 1)) aNil))) (aCons (eD (.int 2)) aNil)))) (eD (.int 1))))
  (sRet (eD (.bool false)))
  sNil)
noncomputable def t3_law : Sv := (sIf (tOr (tOf (eBin oNe (eCallN 2 g_hours_apart (aCons (eTup (aCons (eD (.int 0)) (aCons (eD (.int 0)) aNil))) (aCons (eD (.int 1)) aNil))) (eTup aNil))) (tOf (eBin oNe (eCallN 2 g_hours_apart (aCons (eTup (aCons (eD (.int 2)) (aCons (eD (.int 2)) aNil))) (aCons (eD (.int 2)) aNil))) (eTup (aCons (eD (.int 0)) aNil)))))
  (sRet (eD (.bool false)))
  sNil)
noncomputable def l0_law : Sv := (sCons (sSet 3 (eCallN 2 g__law_needs (aCons (eVar 1) (aCons (eD (.int 10)) aNil))))
  (sCons (sIf (tNot (tOf (eCallN 3 g__law_is_right (aCons (eVar 1) (aCons (eVar 3) (aCons (eBin (oAdd false) (eD (.int 1)) (eCallN 2 g__law_draw (aCons (eVar 1) (aCons (eCallN 2 g__law_any (aCons (eVar 1) (aCons (eLst false (aCons (eD (.int 4)) (aCons (eD (.int 24)) aNil))) aNil))) aNil)))) aNil))))))
  (sRet (eD (.bool false)))
  sNil)
  (sIf (tNot (tOf (eCallN 2 g__law_are_refused (aCons (eVar 1) (aCons (eVar 3) aNil)))))
  (sRet (eD (.bool false)))
  sNil)))
noncomputable def t4_law : Sv := (sFor (iRange (aCons (eD (.int 6)) aNil)) (gN 2) l0_law)
noncomputable def t5_law : Sv := (sRet (eD (.bool true)))
noncomputable def b_law : Sv := (sCons t0_law
  (sCons t1_law
  (sCons t2_law
  (sCons t3_law
  (sCons t4_law
  t5_law)))))
noncomputable def g_law : Fn := fnOf 4 b_law
theorem bd_law {P : Program} {w : World} {K : PySem.W.Frag} {mg : Str → Option Value} {base : Heap} (h : Hd τ K mg base) (f : Addr) (cdv : Value) (B : Around) (fs : List PySem.Env) (s : Shared) (H : Hp) (E : XK) (cc : Cc (cxD P w K mg base N_law "law" s_law f cdv B fs s H E) (wD E) 9) : DB τ (cxD P w K mg base N_law "law" s_law f cdv B fs s H E) (wD E) (defBody s_law) b_law :=
  (db_cons (ds_set 1 cc.nd rfl (.inl rfl) (de_callD (ok__law_hand h) cc (by decide) (by rfl) (da_cons (de_var 0) da_nil)))
  (db_cons (ds_if (DW.t (dw_or (dt_cmp (op_neX cc.hu) ok_ne (de_callD (ok_hours_apart h) cc (by decide) (by rfl) (da_cons (de_tup (da_cons de_int (da_cons de_int (da_cons de_int da_nil)))) (da_cons de_int da_nil))) (de_tup (da_cons de_int (da_cons de_int da_nil))) (nomark _)) (dw_or1 (dt_cmp (op_neX cc.hu) ok_ne (de_callD (ok_at_work h) cc (by decide) (by rfl) (da_cons (de_tup (da_cons de_int (da_cons de_int (da_cons de_int da_nil)))) (da_cons de_int da_nil))) (de_tup (da_cons de_int (da_cons de_int (da_cons de_int da_nil)))) (nomark _)))))
  (db_one (ds_ret de_bl))
  db_nil)
  (db_cons (ds_if (dt_cmp (op_neX cc.hu) ok_ne (de_callD (ok_over_hours h) cc (by decide) (by rfl) (da_cons (de_tup (da_cons de_int (da_cons de_int da_nil))) (da_cons (de_tup (da_cons de_int (da_cons de_int da_nil))) (da_cons de_int da_nil)))) de_int (nomark _))
  (db_one (ds_ret de_bl))
  db_nil)
  (db_cons (ds_if (DW.t (dw_or (dt_cmp (op_neX cc.hu) ok_ne (de_callD (ok_hours_apart h) cc (by decide) (by rfl) (da_cons (de_tup (da_cons de_int (da_cons de_int da_nil))) (da_cons de_int da_nil))) (de_tup da_nil) (nomark _)) (dw_or1 (dt_cmp (op_neX cc.hu) ok_ne (de_callD (ok_hours_apart h) cc (by decide) (by rfl) (da_cons (de_tup (da_cons de_int (da_cons de_int da_nil))) (da_cons de_int da_nil))) (de_tup (da_cons de_int da_nil)) (nomark _)))))
  (db_one (ds_ret de_bl))
  db_nil)
  (db_cons (ds_for cc (di_range1 (by rfl) h.z_range (da_cons de_int da_nil)) (dg_name 2 cc.nd rfl (.inl rfl))
  (db_cons (ds_set 3 cc.nd rfl (.inl rfl) (de_callD (ok__law_needs h) cc (by decide) (by rfl) (da_cons (de_var 1) (da_cons de_int da_nil))))
  (db_cons (ds_if (dt_not (dt_val (de_callD (ok__law_is_right h) cc (by decide) (by rfl) (da_cons (de_var 1) (da_cons (de_var 3) (da_cons (de_bin op_addX ok_add de_int (de_callD (ok__law_draw h) cc (by decide) (by rfl) (da_cons (de_var 1) (da_cons (de_callD (ok__law_any h) cc (by decide) (by rfl) (da_cons (de_var 1) (da_cons (de_lst false (da_cons de_int (da_cons de_int da_nil))) da_nil))) da_nil)))) da_nil))))))
  (db_one (ds_ret de_bl))
  db_nil)
  (db_one (ds_if (dt_not (dt_val (de_callD (ok__law_are_refused h) cc (by decide) (by rfl) (da_cons (de_var 1) (da_cons (de_var 3) da_nil)))))
  (db_one (ds_ret de_bl))
  db_nil)))))
  (db_one (ds_ret de_bl)))))))
theorem ok_law {P : Program} {w : World} {K : PySem.W.Frag} {mg : Str → Option Value} {base : Heap} {fa : Addr} {fd : FuncData} (h : Hd τ K mg base) (hfa : mg "law" = some (.ref fa)) (same : ∃ (oc : Value) (od : Option Addr) (osl : Array (Option Value)), K.lookup fa = some ⟨oc, od, .func fd, osl⟩) : Fk P w K mg base 10 fa fd ["script"] (spN τ K mg 1 g_law) :=
  law_endF (b := b_law) (N := N_law) (st := s_law) h.d_law hfa sc_law (bd_law h) same
def pre (f : List Int) (k : Nat) : Int := (f.take k).sum
theorem pre_0 (f : List Int) : pre f 0 = 0 := by simp [pre]
theorem pre_succ {f : List Int} {k : Nat} (h : k < f.length) : pre f (k + 1) = pre f k + atN f k := by
  unfold pre
  rw [List.take_succ, List.getElem?_eq_getElem h, List.sum_append, atN_lt h]
  simp
theorem pre_end {f : List Int} {k : Nat} (h : f.length ≤ k) : pre f k = f.sum := by
  unfold pre
  rw [List.take_of_length_le h]
theorem pre_app {f g : List Int} {k : Nat} (h : k ≤ f.length) : pre (f ++ g) k = pre f k := by
  unfold pre
  rw [List.take_append_of_le_length h]
theorem pre_eq {f g : List Int} (hl : f.length = g.length) : ∀ k, k ≤ f.length → (∀ i, i < k → atN f i = atN g i) → pre f k = pre g k := by
  intro k
  induction k with
  | zero => intro _ _; rw [pre_0, pre_0]
  | succ k ih =>
    intro h e
    rw [pre_succ (by omega), pre_succ (by omega), ih (by omega) (fun i hi => e i (by omega)), e k (by omega)]
theorem pre_mono {f : List Int} (h0 : ∀ x ∈ f, 0 ≤ x) : ∀ (a b : Nat), a ≤ b → pre f a ≤ pre f b := by
  intro a b h
  induction b with
  | zero => rw [show a = 0 by omega]; exact Int.le_refl _
  | succ b ih =>
    by_cases e : a = b + 1
    · subst e; exact Int.le_refl _
    · have := ih (by omega)
      by_cases q : b < f.length
      · rw [pre_succ q]
        have := h0 _ (atN_mem q)
        omega
      · rw [pre_end (by omega : f.length ≤ b + 1)]
        rw [pre_end (by omega : f.length ≤ b)] at this
        exact this
theorem slice_sum (f : List Int) : ∀ (a b : Nat), a ≤ b → ((f.take b).drop a).sum = pre f b - pre f a := by
  intro a b h
  unfold pre
  have e : f.take a = (f.take b).take a := by rw [List.take_take, Nat.min_eq_left h]
  have := List.take_append_drop a (f.take b)
  have s : ((f.take b).take a).sum + ((f.take b).drop a).sum = (f.take b).sum := by rw [← List.sum_append, this]
  rw [e]
  omega
def nxtG (L : Nat) (F : List Int) (n : Int) : Int := max 0 (n - (pre F F.length - pre F (F.length + 1 - L)))
def grF (L : Nat) : List Int → List Int → List Int
  | F, [] => F
  | F, n :: ns => grF L (F ++ [nxtG L F n]) ns
def gr (L : Nat) (N : List Int) : List Int := grF L [] N
structure GI (L : Nat) (F V : List Int) : Prop where
  len : F.length = V.length
  st : ∀ h, h < V.length → pre F (h + 1) = max (pre F h) (atN V h + pre F (h + 1 - L))
  nn : ∀ x ∈ F, 0 ≤ x
theorem GI.step {L : Nat} {F V : List Int} (hL : 1 ≤ L) (g : GI L F V) (n : Int) : GI L (F ++ [nxtG L F n]) (V ++ [n]) := by
  have ln := g.len
  refine ⟨by simp [ln], fun h hh => ?_, fun x hx => ?_⟩
  · have hh : h < V.length + 1 := by simpa using hh
    by_cases q : h < V.length
    · rw [pre_app (by omega), pre_app (by omega), pre_app (by omega), g.st h q]
      have : atN (V ++ [n]) h = atN V h := by simp [atN, List.getElem?_append_left q]
      rw [this]
    · obtain rfl : h = V.length := by omega
      have e1 : atN (V ++ [n]) V.length = n := by simp [atN]
      have e2 : atN (F ++ [nxtG L F n]) V.length = nxtG L F n := by rw [← ln]; simp [atN]
      rw [pre_succ (by simp; omega), e1, e2, pre_app (by omega), pre_app (by omega)]
      unfold nxtG
      rw [ln]
      omega
  · rcases List.mem_append.mp hx with hx | hx
    · exact g.nn x hx
    · simp at hx
      subst hx
      unfold nxtG
      omega
theorem gi_all {L : Nat} (hL : 1 ≤ L) : ∀ (ns F V : List Int), GI L F V → GI L (grF L F ns) (V ++ ns) := by
  intro ns
  induction ns with
  | nil => intro F V g; simpa [grF] using g
  | cons n ns ih =>
    intro F V g
    have := ih _ _ (g.step hL n)
    rw [List.append_assoc, List.singleton_append] at this
    exact this
theorem gr_gi {L : Nat} (hL : 1 ≤ L) (N : List Int) : GI L (gr L N) N := by
  have := gi_all hL N [] [] ⟨rfl, fun h hh => by simp at hh, by simp⟩
  exact this
structure Fe (L : Nat) (N f : List Int) : Prop where
  len : f.length = N.length
  nn : ∀ x ∈ f, 0 ≤ x
  en : ∀ h, h < N.length → atN N h ≤ pre f (h + 1) - pre f (h + 1 - L)
section
variable {L : Nat} {N : List Int}
theorem gr_fe (hL : 1 ≤ L) : Fe L N (gr L N) := by
  have g := gr_gi hL N
  refine ⟨g.len, g.nn, fun h hh => ?_⟩
  have := g.st h hh
  omega
theorem fe_pre (hL : 1 ≤ L) {f : List Int} (F : Fe L N f) : ∀ k, k ≤ N.length → pre (gr L N) k ≤ pre f k := by
  have g := gr_gi hL N
  intro k
  induction k using Nat.strongRecOn with
  | _ k ih =>
    intro hk
    cases k with
    | zero => rw [pre_0, pre_0]; exact Int.le_refl _
    | succ k =>
      have e := g.st k (by omega)
      have a := ih k (by omega) (by omega)
      have b := ih (k + 1 - L) (by omega) (by omega)
      have c := F.en k (by omega)
      have d := pre_mono F.nn k (k + 1) (by omega)
      omega
theorem fe_sum (hL : 1 ≤ L) {f : List Int} (F : Fe L N f) : (gr L N).sum ≤ f.sum := by
  have a := fe_pre hL F N.length (Nat.le_refl _)
  have g := gr_gi hL N
  rw [pre_end (by rw [g.len]; exact Nat.le_refl _), pre_end (by rw [F.len]; exact Nat.le_refl _)] at a
  exact a
theorem gr_le (hL : 1 ≤ L) {M : Int} (h0 : 0 ≤ M) (hM : ∀ x ∈ N, x ≤ M) : ∀ x ∈ gr L N, x ≤ M := by
  have g := gr_gi hL N
  intro x hx
  obtain ⟨h, hh, e⟩ := List.mem_iff_getElem.mp hx
  have hn : h < N.length := by rw [← g.len]; exact hh
  have s := g.st h hn
  rw [pre_succ hh, atN_lt hh, e] at s
  have m := pre_mono g.nn (h + 1 - L) h (by omega)
  have := hM _ (atN_mem hn)
  omega
theorem gr_more (hL : 1 ≤ L) {N2 : List Int} (hl : N2.length = N.length) (h : ∀ i, i < N.length → atN N i ≤ atN N2 i) : (gr L N).sum ≤ (gr L N2).sum := by
  have F := gr_fe (N := N2) hL
  refine fe_sum hL ⟨by rw [F.len, hl], F.nn, fun i hi => ?_⟩
  have := F.en i (by omega)
  have := h i hi
  omega
theorem gr_long (hL : 1 ≤ L) : (gr (L + 1) N).sum ≤ (gr L N).sum := by
  have F := gr_fe (N := N) hL
  refine fe_sum (by omega) ⟨F.len, F.nn, fun i hi => ?_⟩
  have := F.en i hi
  have := pre_mono F.nn (i + 1 - (L + 1)) (i + 1 - L) (by omega)
  omega
end
def Ap (L : Nat) (hi : Nat) : Nat → List Nat → Prop
  | _, [] => True
  | lo, x :: xs => lo ≤ x ∧ x < hi ∧ Ap L hi (x + L) xs
def wt (N : List Int) (l : List Nat) : Int := (l.map fun i => atN N i).sum
theorem ap_lo {L hi : Nat} {a b : Nat} (h : a ≤ b) {l : List Nat} (p : Ap L hi b l) : Ap L hi a l := by
  cases l with
  | nil => trivial
  | cons x xs => exact ⟨by have := p.1; omega, p.2⟩
theorem ap_hi {L a b : Nat} (h : a ≤ b) : ∀ (l : List Nat) (lo : Nat), Ap L a lo l → Ap L b lo l := by
  intro l
  induction l with
  | nil => intro _ _; trivial
  | cons x xs ih => intro lo p; exact ⟨p.1, by have := p.2.1; omega, ih _ p.2.2⟩
theorem ap_snoc {L : Nat} {k : Nat} : ∀ (l : List Nat) (lo : Nat), lo ≤ k → Ap L (k + 1 - L) lo l → Ap L (k + 1) lo (l ++ [k]) := by
  intro l
  induction l with
  | nil => intro lo h _; exact ⟨h, by omega, trivial⟩
  | cons x xs ih =>
    intro lo h p
    have := p.2.1
    exact ⟨p.1, by omega, ih _ (by omega) p.2.2⟩
section
variable {L : Nat} {N : List Int}
theorem ap_le (hL : 1 ≤ L) : ∀ (l : List Nat) (lo : Nat), Ap L N.length lo l → wt N l + pre (gr L N) (lo + 1 - L) ≤ (gr L N).sum := by
  have g := gr_gi hL N
  have top : ∀ k, pre (gr L N) k ≤ (gr L N).sum := fun k => by
    have := pre_mono g.nn k (max k (gr L N).length) (by omega)
    rw [pre_end (k := max k (gr L N).length) (by omega)] at this
    exact this
  intro l
  induction l with
  | nil => intro lo _; have := top (lo + 1 - L); simp [wt]; exact this
  | cons x xs ih =>
    intro lo p
    have i := ih _ p.2.2
    have s := g.st x p.2.1
    have m := pre_mono g.nn (lo + 1 - L) (x + 1 - L) (by have := p.1; omega)
    rw [show x + L + 1 - L = x + 1 by omega] at i
    have : wt N (x :: xs) = atN N x + wt N xs := by simp [wt]
    omega
theorem ap_ex (hL : 1 ≤ L) : ∀ k, k ≤ N.length → ∃ l, Ap L k 0 l ∧ wt N l = pre (gr L N) k := by
  have g := gr_gi hL N
  intro k
  induction k using Nat.strongRecOn with
  | _ k ih =>
    intro hk
    cases k with
    | zero => exact ⟨[], trivial, by simp [wt, pre_0]⟩
    | succ k =>
      have e := g.st k (by omega)
      by_cases q : pre (gr L N) (k + 1) = pre (gr L N) k
      · obtain ⟨l, h1, h2⟩ := ih k (by omega) (by omega)
        exact ⟨l, ap_hi (by omega) l 0 h1, by rw [h2, q]⟩
      · obtain ⟨l, h1, h2⟩ := ih (k + 1 - L) (by omega) (by omega)
        refine ⟨l ++ [k], ap_snoc l 0 (by omega) h1, ?_⟩
        have : wt N (l ++ [k]) = wt N l + atN N k := by simp [wt]
        rw [this, h2]
        omega
structure Bst (L : Nat) (N : List Int) (h : Nat) (v : Int) (l : List Nat) : Prop where
  ap : Ap L N.length h l
  wt : wt N l = v
  mx : ∀ m, Ap L N.length h m → Dl.wt N m ≤ v
theorem bst_end {h : Nat} (hh : N.length ≤ h) : Bst L N h 0 [] := by
  refine ⟨trivial, rfl, fun m p => ?_⟩
  cases m with
  | nil => exact Int.le_refl _
  | cons x xs => have := p.1; have := p.2.1; omega
theorem bst_step {h : Nat} (hh : h < N.length) {v w : Int} {l m : List Nat} (a : Bst L N (h + 1) v l) (b : Bst L N (h + L) w m) : (w + atN N h ≤ v → Bst L N h v l) ∧ (v ≤ w + atN N h → Bst L N h (atN N h + w) (h :: m)) := by
  have up : ∀ q, Ap L N.length h q → Dl.wt N q ≤ v ∨ Dl.wt N q ≤ w + atN N h := fun q p => by
    cases q with
    | nil => left; exact a.mx [] trivial
    | cons x xs =>
      by_cases e : x = h
      · subst e
        right
        have := b.mx xs p.2.2
        have e2 : Dl.wt N (x :: xs) = atN N x + Dl.wt N xs := by simp [Dl.wt]
        omega
      · left
        exact a.mx (x :: xs) ⟨by have := p.1; omega, p.2⟩
  constructor
  · intro le
    exact ⟨ap_lo (by omega) a.ap, a.wt, fun q p => by rcases up q p with u | u <;> omega⟩
  · intro le
    have e2 : Dl.wt N (h :: m) = atN N h + Dl.wt N m := by simp [Dl.wt]
    have e3 := b.wt
    exact ⟨⟨by omega, hh, b.ap⟩, by omega, fun q p => by rcases up q p with u | u <;> omega⟩
theorem bst_sum (hL : 1 ≤ L) {v : Int} {l : List Nat} (b : Bst L N 0 v l) : wt N l = (gr L N).sum := by
  have g := gr_gi hL N
  have a := ap_le hL l 0 b.ap
  rw [show 0 + 1 - L = 0 by omega, pre_0] at a
  obtain ⟨m, h1, h2⟩ := ap_ex (N := N) hL N.length (Nat.le_refl _)
  have c := b.mx m h1
  rw [pre_end (by rw [g.len]; exact Nat.le_refl _)] at h2
  have := b.wt
  omega
end
def ltL : List Int → List Int → Bool
  | [], [] => false
  | [], _ :: _ => true
  | _ :: _, [] => false
  | x :: xs, y :: ys => decide (x < y) || (decide (x = y) && ltL xs ys)
theorem ltL_ix : ∀ (f g : List Int), f.length = g.length → ltL f g = true → ∃ i, i < f.length ∧ (∀ k, k < i → atN f k = atN g k) ∧ atN f i < atN g i := by
  intro f
  induction f with
  | nil =>
    intro g h l
    cases g with
    | nil => simp [ltL] at l
    | cons _ _ => simp at h
  | cons x f ih =>
    intro g h l
    cases g with
    | nil => simp at h
    | cons y g =>
      simp only [ltL, Bool.or_eq_true, Bool.and_eq_true, decide_eq_true_eq] at l
      rcases l with l | ⟨e, l⟩
      · exact ⟨0, by simp, by omega, by simpa [atN] using l⟩
      · obtain ⟨i, h1, h2, h3⟩ := ih g (by simpa using h) l
        refine ⟨i + 1, by simpa using h1, fun k hk => ?_, by simpa [atN] using h3⟩
        cases k with
        | zero => simpa [atN] using e
        | succ k => simpa [atN] using h2 k (by omega)
theorem ltL_trans : ∀ (a b c : List Int), ltL a b = true → ltL b c = true → ltL a c = true := by
  intro a
  induction a with
  | nil =>
    intro b c h1 h2
    cases c with
    | nil => cases b <;> simp [ltL] at h2
    | cons _ _ => rfl
  | cons x a ih =>
    intro b c h1 h2
    cases b with
    | nil => simp [ltL] at h1
    | cons y b =>
      cases c with
      | nil => simp [ltL] at h2
      | cons z c =>
        simp only [ltL, Bool.or_eq_true, Bool.and_eq_true, decide_eq_true_eq] at *
        rcases h1 with h1 | ⟨e1, h1⟩
        · rcases h2 with h2 | ⟨e2, h2⟩
          · left; omega
          · left; omega
        · rcases h2 with h2 | ⟨e2, h2⟩
          · left; omega
          · right; exact ⟨by omega, ih b c h1 h2⟩
theorem ltL_irr : ∀ (a : List Int), ltL a a = false := by
  intro a
  induction a with
  | nil => rfl
  | cons x a ih => simp [ltL, ih]
theorem ltL_tri : ∀ (a b : List Int), ltL a b = false → ltL b a = false → a = b := by
  intro a
  induction a with
  | nil =>
    intro b h1 _
    cases b with
    | nil => rfl
    | cons _ _ => simp [ltL] at h1
  | cons x a ih =>
    intro b h1 h2
    cases b with
    | nil => simp [ltL] at h2
    | cons y b =>
      simp only [ltL, Bool.or_eq_false_iff, Bool.and_eq_false_iff, decide_eq_false_iff_not] at h1 h2
      have e : x = y := by omega
      subst e
      have := ih b (by rcases h1.2 with q | q; exact absurd rfl q; exact q) (by rcases h2.2 with q | q; exact absurd rfl q; exact q)
      rw [this]
def rwD (r : List Int) : D := .tuple (iD r)
theorem dlt_cons_int (a b : Int) (xs ys : List D) : PyProof.Rows.lexLt PyProof.Rows.itemOrd (PySem.W.keyToksAll (.int a :: xs)) (PySem.W.keyToksAll (.int b :: ys)) = (decide (a < b) || (decide (a = b) && PyProof.Rows.lexLt PyProof.Rows.itemOrd (PySem.W.keyToksAll xs) (PySem.W.keyToksAll ys))) := by
  rw [PySem.W.dataLt_cons (by simp [PySem.W.alike])]
  have e : PyData.eqv (.int a) (.int b) = decide (a = b) := by
    rw [Bool.eq_iff_iff]
    simp [PyData.eqv]
  rw [e, PySem.W.dataLt_int]
  by_cases q : a = b
  · subst q; simp
  · simp [q]
theorem dlt_nil : PyProof.Rows.lexLt PyProof.Rows.itemOrd (PySem.W.keyToksAll []) (PySem.W.keyToksAll []) = false := by decide +kernel
theorem dlt_nc (d : D) (ds : List D) : PyProof.Rows.lexLt PyProof.Rows.itemOrd (PySem.W.keyToksAll []) (PySem.W.keyToksAll (d :: ds)) = true := by
  rw [PySem.W.keyToksAll, PySem.W.keyToksAll]
  rfl
theorem dlt_cn (d : D) (ds : List D) : PyProof.Rows.lexLt PyProof.Rows.itemOrd (PySem.W.keyToksAll (d :: ds)) (PySem.W.keyToksAll []) = false := by
  rw [PySem.W.keyToksAll, PySem.W.keyToksAll]
  rfl
theorem dlt_rows : ∀ (f g : List Int), PyProof.Rows.lexLt PyProof.Rows.itemOrd (PySem.W.keyToksAll (iD f)) (PySem.W.keyToksAll (iD g)) = ltL f g := by
  intro f
  induction f with
  | nil =>
    intro g
    cases g with
    | nil => exact dlt_nil
    | cons y g => exact dlt_nc _ _
  | cons x f ih =>
    intro g
    cases g with
    | nil => exact dlt_cn _ _
    | cons y g =>
      rw [show iD (x :: f) = .int x :: iD f from rfl, show iD (y :: g) = .int y :: iD g from rfl, dlt_cons_int, ih g]
      rfl
theorem dlt_r {f g : List Int} : PySem.W.dataLt (rwD f) (rwD g) = ltL f g := by
  unfold rwD
  rw [PySem.W.dataLt_tuple, dlt_rows f g]
theorem alike_rows : ∀ (f g : List Int), PySem.W.alikeAll (iD f) (iD g) = true := by
  intro f
  induction f with
  | nil => intro g; cases g <;> simp [iD, PySem.W.alikeAll]
  | cons x f ih =>
    intro g
    cases g with
    | nil => simp [iD, PySem.W.alikeAll]
    | cons y g =>
      have := ih g
      unfold iD at *
      simp [PySem.W.alikeAll, PySem.W.alike, this]
theorem alikeOk_rows (L : List (List Int)) : alikeOk (L.map rwD) = true := by
  simp [alikeOk, PySem.W.alike, isNone, rwD, alike_rows]
theorem seqok_rows (L : List (List Int)) : seqOk (L.map rwD) = true := by
  have : PyData.plainAll (L.map rwD) = true ∧ PyData.depthAll (L.map rwD) ≤ 1 := by
    induction L with
    | nil => exact ⟨rfl, by decide⟩
    | cons n ns ih =>
      have p := plain_ints n
      refine ⟨by simp [PyData.plainAll, PyData.plain, rwD, iD, p.1, ih.1], ?_⟩
      have := ih.2
      simp [PyData.depthAll, PyData.depth, rwD, iD, p.2]
      omega
  unfold seqOk
  rw [this.1]
  have := this.2
  simp
  omega
theorem eqv_rows : ∀ (f g : List Int), PyData.eqvAll (iD f) (iD g) = decide (f = g) := by
  intro f
  induction f with
  | nil => intro g; cases g <;> simp [iD, PyData.eqvAll]
  | cons x f ih =>
    intro g
    cases g with
    | nil => simp [iD, PyData.eqvAll]
    | cons y g =>
      have := ih g
      unfold iD at *
      rw [List.map_cons, List.map_cons, PyData.eqvAll, this]
      have e : PyData.eqv (.int x) (.int y) = decide (x = y) := by
        rw [Bool.eq_iff_iff]
        simp [PyData.eqv]
      rw [e, Bool.eq_iff_iff]
      simp
abbrev Pi := Int × List Int
def pqD (p : Pi) : D := .tuple [.int p.1, rwD p.2]
def ltp (p q : Pi) : Bool := decide (p.1 < q.1) || (decide (p.1 = q.1) && ltL p.2 q.2)
theorem dlt_one {f g : List Int} : PyProof.Rows.lexLt PyProof.Rows.itemOrd (PySem.W.keyToksAll [rwD f]) (PySem.W.keyToksAll [rwD g]) = ltL f g := by
  have al : PySem.W.alike (rwD f) (rwD g) = true := by unfold rwD; simp [PySem.W.alike, alike_rows]
  have eq : PyData.eqv (rwD f) (rwD g) = decide (f = g) := by unfold rwD; rw [PyData.eqv]; exact eqv_rows f g
  rw [PySem.W.dataLt_cons al, dlt_nil, eq, dlt_r]
  by_cases e : f = g
  · subst e; simp [ltL_irr]
  · simp [e]
theorem dlt_pq {p q : Pi} : PySem.W.dataLt (pqD p) (pqD q) = ltp p q := by
  unfold pqD
  rw [PySem.W.dataLt_tuple, dlt_cons_int, dlt_one]
  rfl
theorem ltp_tri {p q : Pi} (h1 : ltp p q = false) (h2 : ltp q p = false) : p = q := by
  unfold ltp at h1 h2
  simp only [Bool.or_eq_false_iff, Bool.and_eq_false_iff, decide_eq_false_iff_not] at h1 h2
  have e : p.1 = q.1 := by omega
  have e2 := ltL_tri p.2 q.2 (by rcases h1.2 with w | w; exact absurd e w; exact w) (by rcases h2.2 with w | w; exact absurd e.symm w; exact w)
  exact Prod.ext e e2
theorem min_pq {g : Pi} : ∀ (L : List Pi) (a : Pi), g ∈ a :: L → (∀ f ∈ a :: L, ltp f g = false) → PySem.W.minD (pqD a) (L.map pqD) = pqD g := by
  intro L
  induction L with
  | nil =>
    intro a hm _
    simp at hm
    subst hm
    rfl
  | cons y L ih =>
    intro a hm h
    have e : PySem.W.minD (pqD a) ((y :: L).map pqD) = PySem.W.minD (if ltp y a = true then pqD y else pqD a) (L.map pqD) := by
      show List.foldl _ _ _ = _
      rw [List.map_cons, List.foldl_cons, dlt_pq]
      rfl
    rw [e]
    by_cases q : ltp y a = true
    · rw [if_pos q]
      refine ih y ?_ (fun f hf => h f (List.mem_cons_of_mem _ hf))
      rcases List.mem_cons.mp hm with rfl | hm
      · rw [h y (by simp)] at q; cases q
      · exact hm
    · rw [if_neg q]
      refine ih a ?_ (fun f hf => by
        rcases List.mem_cons.mp hf with rfl | hf
        · exact h f (by simp)
        · exact h f (by simp [hf]))
      rcases List.mem_cons.mp hm with rfl | hm
      · simp
      · rcases List.mem_cons.mp hm with rfl | hm
        · have := ltp_tri (h a (by simp)) (by simpa using q)
          rw [this]; simp
        · simp [hm]
theorem alike_pq (L : List Pi) : alikeOk (L.map pqD) = true := by
  simp [alikeOk, PySem.W.alike, PySem.W.alikeAll, isNone, pqD, rwD, alike_rows]
theorem seqok_pq (L : List Pi) : seqOk (L.map pqD) = true := by
  have : PyData.plainAll (L.map pqD) = true ∧ PyData.depthAll (L.map pqD) ≤ 2 := by
    induction L with
    | nil => exact ⟨rfl, by decide⟩
    | cons n ns ih =>
      have p := plain_ints n.2
      refine ⟨by simp [PyData.plainAll, PyData.plain, pqD, rwD, iD, p.1, ih.1], ?_⟩
      have := ih.2
      simp [PyData.depthAll, PyData.depth, pqD, rwD, iD, p.2]
      omega
  unfold seqOk
  rw [this.1]
  have := this.2
  simp
  omega
theorem pq_min {L : List Pi} {g : Pi} {S : Store} (hm : g ∈ L) (h : ∀ f ∈ L, ltp f g = false) : fMin1 [.d (.list (L.map pqD))] S = .ok (.d (pqD g)) S := by
  cases L with
  | nil => cases hm
  | cons x L =>
    have e := min_pq L x hm h
    have a := alike_pq (x :: L)
    have ok := seqok_pq (x :: L)
    simp only [List.map_cons] at a ok
    simp [fMin1, fSeq, view, seqOf, ok, a, e]
def cst (l : List Nat) : List Int := l.map fun (i : Nat) => (i : Int)
structure Bx (L : Nat) (N : List Int) (h : Nat) (v : Int) (l : List Nat) : Prop where
  b : Bst L N h v l
  lx : ∀ m, Ap L N.length h m → Dl.wt N m = v → ltL (cst m) (cst l) = false
theorem lt_cons (x : Nat) (a b : List Nat) : ltL (cst (x :: a)) (cst (x :: b)) = ltL (cst a) (cst b) := by
  simp [cst, ltL]
theorem ltL_le {a b c : List Int} (h1 : ltL b a = false) (h2 : ltL c b = false) : ltL c a = false := by
  cases t : ltL c a with
  | false => rfl
  | true =>
    cases u : ltL a b with
    | true => rw [ltL_trans c a b t u] at h2; cases h2
    | false =>
      have := ltL_tri a b u h1
      rw [this] at t
      rw [t] at h2
      cases h2
theorem bx_end {L h : Nat} {N : List Int} (hh : N.length ≤ h) : Bx L N h 0 [] := ⟨bst_end hh, fun m p _ => by
  cases m with
  | nil => rfl
  | cons x xs => have := p.1; have := p.2.1; omega⟩
theorem bx_step {L h : Nat} {N : List Int} (hh : h < N.length) {v w : Int} {l m : List Nat} (a : Bx L N (h + 1) v l) (b : Bx L N (h + L) w m) : (w + atN N h < v → Bx L N h v l) ∧ (v < w + atN N h → Bx L N h (atN N h + w) (h :: m)) ∧ (v = w + atN N h → ∀ r, (r = l ∨ r = h :: m) → ltL (cst l) (cst r) = false → ltL (cst (h :: m)) (cst r) = false → Bx L N h v r) := by
  have st := bst_step hh a.b b.b
  have cs : ∀ q, Ap L N.length h q → (Ap L N.length (h + 1) q) ∨ (∃ q', q = h :: q' ∧ Ap L N.length (h + L) q' ∧ Dl.wt N q = atN N h + Dl.wt N q') := fun q p => by
    cases q with
    | nil => exact .inl trivial
    | cons x xs =>
      by_cases e : x = h
      · subst e
        exact .inr ⟨xs, rfl, p.2.2, by simp [Dl.wt]⟩
      · exact .inl ⟨by have := p.1; omega, p.2⟩
  refine ⟨fun lt => ⟨st.1 (by omega), fun q p e => ?_⟩, fun lt => ⟨st.2 (by omega), fun q p e => ?_⟩, fun eq r hr h1 h2 => ⟨?_, fun q p e => ?_⟩⟩
  · rcases cs q p with p' | ⟨q', rfl, p', e'⟩
    · exact a.lx q p' e
    · have := b.b.mx q' p'
      omega
  · rcases cs q p with p' | ⟨q', rfl, p', e'⟩
    · have := a.b.mx q p'
      omega
    · rw [lt_cons]
      exact b.lx q' p' (by omega)
  · rcases hr with rfl | rfl
    · exact st.1 (by omega)
    · have := st.2 (by omega)
      rw [eq, Int.add_comm]
      exact this
  · rcases cs q p with p' | ⟨q', rfl, p', e'⟩
    · exact ltL_le h1 (a.lx q p' e)
    · refine ltL_le h2 ?_
      rw [lt_cons]
      exact b.lx q' p' (by omega)
def apOk (L h : Nat) (l : List Nat) : Bool := match l.getLast? with
  | none => true
  | some x => decide ((L : Int) ≤ (h : Int) - (x : Int))
def lotsF (L : Nat) : Nat → List (List Nat)
  | 0 => [[]]
  | h + 1 => lotsF L h ++ ((lotsF L h).filter (apOk L h)).map fun l => l ++ [h]
theorem ap_split {L k : Nat} (hL : 1 ≤ L) : ∀ (l : List Nat) (lo : Nat), Ap L (k + 1) lo l ↔ Ap L k lo l ∨ ∃ q, l = q ++ [k] ∧ Ap L k lo q ∧ (q = [] → lo ≤ k) ∧ (∀ x, q.getLast? = some x → x + L ≤ k) := by
  intro l
  induction l with
  | nil =>
    intro lo
    constructor
    · intro _; exact .inl trivial
    · intro _; trivial
  | cons x xs ih =>
    intro lo
    constructor
    · intro p
      by_cases e : x = k
      · subst e
        right
        have : xs = [] := by
          cases xs with
          | nil => rfl
          | cons y ys => have a := p.2.2.1; have b := p.2.2.2.1; omega
        subst this
        exact ⟨[], rfl, trivial, fun _ => p.1, by simp⟩
      · rcases (ih (x + L)).mp p.2.2 with h | ⟨q, rfl, h1, h2, h3⟩
        · left
          exact ⟨p.1, by have := p.2.1; omega, h⟩
        · right
          refine ⟨x :: q, rfl, ⟨p.1, by have := p.2.1; omega, h1⟩, by simp, fun y hy => ?_⟩
          cases q with
          | nil => simp at hy; subst hy; exact h2 rfl
          | cons z q => rw [List.getLast?_cons_cons] at hy; exact h3 y hy
    · rintro (h | ⟨q, e, h1, h2, h3⟩)
      · exact ⟨h.1, by have := h.2.1; omega, (ih _).mpr (.inl h.2.2)⟩
      · cases q with
        | nil =>
          simp at e
          obtain ⟨rfl, rfl⟩ := e
          exact ⟨h2 rfl, by omega, trivial⟩
        | cons z q =>
          simp at e
          obtain ⟨rfl, rfl⟩ := e
          refine ⟨h1.1, by have := h1.2.1; omega, (ih _).mpr (.inr ⟨q, rfl, h1.2.2, fun e => ?_, fun y hy => ?_⟩)⟩
          · subst e
            exact h3 x rfl
          · cases q with
            | nil => cases hy
            | cons w q => exact h3 y (by rw [List.getLast?_cons_cons]; exact hy)
theorem lots_mem {L : Nat} (hL : 1 ≤ L) : ∀ (h : Nat) (l : List Nat), l ∈ lotsF L h ↔ Ap L h 0 l := by
  intro h
  induction h with
  | zero =>
    intro l
    rw [lotsF]
    cases l with
    | nil => simp [Ap]
    | cons x xs => simp [Ap]
  | succ h ih =>
    intro l
    rw [lotsF, List.mem_append, ih, ap_split hL]
    constructor
    · rintro (p | p)
      · exact .inl p
      · obtain ⟨q, hq, rfl⟩ := List.mem_map.mp p
        rw [List.mem_filter, ih] at hq
        refine .inr ⟨q, rfl, hq.1, by omega, fun x hx => ?_⟩
        have := hq.2
        unfold apOk at this
        rw [hx] at this
        simp at this
        omega
    · rintro (p | ⟨q, rfl, h1, h2, h3⟩)
      · exact .inl p
      · right
        refine List.mem_map.mpr ⟨q, ?_, rfl⟩
        rw [List.mem_filter, ih]
        refine ⟨h1, ?_⟩
        unfold apOk
        cases e : q.getLast? with
        | none => rfl
        | some x =>
          have := h3 x e
          simp
          omega
theorem lots_len {L : Nat} : ∀ h, (lotsF L h).length ≤ 2 ^ h
  | 0 => by simp [lotsF]
  | h + 1 => by
    have := lots_len (L := L) h
    have f := List.length_filter_le (apOk L h) (lotsF L h)
    rw [lotsF, List.length_append, List.length_map, Nat.pow_succ]
    omega
def pairOf (N : List Int) (l : List Nat) : Pi := (0 - wt N l, cst l)
theorem best_pair {L : Nat} (hL : 1 ≤ L) {N : List Int} {v : Int} {l : List Nat} {S : Store} (b : Bx L N 0 v l) : fMin1 [.d (.list (((lotsF L N.length).map (pairOf N)).map pqD))] S = .ok (.d (pqD (0 - v, cst l))) S := by
  refine pq_min (List.mem_map.mpr ⟨l, (lots_mem hL _ _).mpr b.b.ap, by unfold pairOf; rw [b.b.wt]⟩) (fun p hp => ?_)
  obtain ⟨m, hm, rfl⟩ := List.mem_map.mp hp
  rw [lots_mem hL] at hm
  have mx := b.b.mx m hm
  unfold ltp pairOf
  simp only [Bool.or_eq_false_iff, Bool.and_eq_false_iff, decide_eq_false_iff_not]
  refine ⟨by omega, ?_⟩
  by_cases e : wt N m = v
  · exact .inr (b.lx m hm e)
  · exact .inl (by omega)
set_option exponentiation.threshold 5000
theorem draw_ok : DrawR g__law_draw := by
  rintro size _ R h0 h1 ⟨cs, p, z, s, n, ok, rfl⟩
  have hs1 : size < 2 ^ 4000 := Int.lt_trans h1 (by decide)
  have hs0 : size ≠ 0 := by omega
  have m1 : mulOk s 69621 = true := mulOk_r (by decide)
  generalize e : g__law_draw [.loc 0, .d (.int size)] (hand cs p z s n :: R) = RR
  by_cases hz : z = 0
  · by_cases hp : p < cs.length
    · -- a cell is taken
      obtain ⟨k, rfl⟩ : ∃ k : Nat, p = k := ⟨p.toNat, by have := ok.p; omega⟩
      have hk : k < cs.length := by omega
      have ec : atI (cs.map PyData.int) k = some (.int cs[k]) := by rw [atI_nat]; simp [hk]
      have c0 : 0 ≤ cs[k] := ok.cs _ (List.getElem_mem hk)
      generalize cs[k] = c at ec c0
      have m2 : mulOk c 40692 = true := mulOk_r (by decide)
      subst hz
      by_cases hc : 1000000000000000000 ≤ c
      · have cp : 0 < c := by omega
        simp [g__law_draw, ap_fnOf, b__law_draw, hand, oIx, view, oPost, ec, hp, ixN, oMul_int, m1, m2, oMod_int, oDiv_int h0 hs1, oDiv_int, oPow, hc, cp, h0, hs1, List.replicate] at e
        subst e
        refine ⟨_, _, Int.emod_nonneg _ hs0, Int.emod_lt_of_pos _ h0, ⟨cs, _, _, _, _, ?_, rfl⟩, rfl⟩; exact ⟨ok.cs, by have := ok.p; omega, Int.ediv_nonneg c0 (by omega), Int.emod_nonneg _ (by decide), ok.n⟩
      · simp [g__law_draw, ap_fnOf, b__law_draw, hand, oIx, view, oPost, ec, hp, ixN, oMul_int, m1, m2, oMod_int, oDiv_int h0 hs1, oDiv_int, oPow, hc, h0, hs1, List.replicate, mod_l, num_l, num_r] at e
        subst e
        refine ⟨_, _, Int.emod_nonneg _ hs0, Int.emod_lt_of_pos _ h0, ⟨cs, _, _, _, _, ?_, rfl⟩, rfl⟩; exact ⟨ok.cs, by have := ok.p; omega, by decide, Int.emod_nonneg _ (by decide), by have := ok.n; omega⟩
    · subst hz
      simp [g__law_draw, ap_fnOf, b__law_draw, hand, oIx, view, oPost, hp, ixN, oMul_int, m1, oMod_int, oDiv_int h0 hs1, oDiv_int, oPow, h0, hs1, List.replicate, mod_l, num_l, num_r] at e
      subst e
      refine ⟨_, _, Int.emod_nonneg _ hs0, Int.emod_lt_of_pos _ h0, ⟨cs, _, _, _, _, ?_, rfl⟩, rfl⟩; exact ⟨ok.cs, ok.p, by decide, ok.s, by have := ok.n; omega⟩
  · have zp : 0 < z := by have := ok.z; omega
    simp [g__law_draw, ap_fnOf, b__law_draw, hand, oIx, view, oPost, hz, zp, ixN, oMod_int, oDiv_int h0 hs1, oDiv_int, h0, hs1, List.replicate] at e
    subst e
    refine ⟨_, _, Int.emod_nonneg _ hs0, Int.emod_lt_of_pos _ h0, ⟨cs, _, _, _, _, ?_, rfl⟩, rfl⟩; exact ⟨ok.cs, ok.p, Int.ediv_nonneg (by omega) (by omega), ok.s, ok.n⟩
set_option exponentiation.threshold 5000
theorem hand_ok (ns : List Int) (h : ns.length ≤ 63) : ∃ m, IsHand m ∧ g__law_hand [.scr ns] [] = .ok (.loc 0) [m] := by
  have cut : cutD (ns.map PyData.int) none (some 63) = ns.map PyData.int := cut63 h
  have lc := lcL_all (tg := gN 2) (f := l0__law_hand) (ρ := [some (.scr ns), none, none]) absD (S := []) (ns.map PyData.int) [] (fun x hx => by
    obtain ⟨i, _, rfl⟩ := List.mem_map.mp hx
    exact ⟨_, rfl, by simp [l0__law_hand, absD]⟩) (by simp; omega)
  have lc2 : (ns.map PyData.int).map absD = (ns.map fun i => (i.natAbs : Int)).map PyData.int := by simp [absD]
  rw [lc2] at lc
  refine ⟨hand (ns.map fun i => (i.natAbs : Int)) 0 0 (83 + 5 * ns.length) 0, ⟨_, _, _, _, _, ⟨fun c hc => ?_, by decide, by decide, by omega, by decide⟩, rfl⟩, ?_⟩
  · obtain ⟨i, _, rfl⟩ := List.mem_map.mp hc
    omega
  · have m : mulOk 5 (ns.length : Int) = true := mulOk_l (by decide)
    simp [g__law_hand, ap_fnOf, b__law_hand, slV, cut, seqOf, List.replicate, wipeE]
    simp at lc
    simp [lc, oMul_int, m, leave, hand]
theorem some_ok {xs : List D} {m : MO} {R : Store} (h : xs ≠ []) (hl : xs.length ≤ 1000) (H : IsHand m) : ∃ x m', x ∈ xs ∧ IsHand m' ∧ g__law_any [.loc 0, .d (.list xs)] (m :: R) = .ok (.d x) (m' :: R) := by
  have hp : 0 < xs.length := List.length_pos_iff.mpr h
  obtain ⟨r, m', h0, h1, H', e⟩ := draw_ok xs.length m R (by omega) (by omega) H
  obtain ⟨k, rfl⟩ : ∃ k : Nat, r = k := ⟨r.toNat, by omega⟩
  have hk : k < xs.length := by omega
  have ex : atI xs k = some xs[k] := by rw [atI_nat]; simp [hk]
  refine ⟨xs[k], m', List.getElem_mem hk, H', ?_⟩
  simp [g__law_any, ap_fnOf, b__law_any, e, ex, List.replicate]
theorem isint_ok (d : D) (S : Store) : g_is_integer [.d d] S = .ok (.d (.bool (isI d))) S := by
  cases d <;> simp [g_is_integer, ap_fnOf, b_is_integer, fIsi, isTy, isI]
theorem within_ok (d : D) (lo hi : Int) (S : Store) : g_is_within [.d d, .d (.int lo), .d (.int hi)] S = .ok (.d (.bool (inI lo hi d))) S := by
  cases d with
  | int i =>
    by_cases h : lo ≤ i <;> simp [g_is_within, ap_fnOf, b_is_within, isint_ok, isI, inI, h]
  | _ => simp [g_is_within, ap_fnOf, b_is_within, isint_ok, isI, inI]
def areB (lo hi : Int) : D → Bool
  | .tuple ds => ds.all (inI lo hi)
  | _ => false
theorem are_ok (d : D) (lo hi : Int) (S : Store) (hl : ∀ ds, d = .tuple ds → ds.length ≤ 900) : g_are_within [.d d, .d (.int lo), .d (.int hi)] S = .ok (.d (.bool (areB lo hi d))) S := by
  cases d with
  | tuple ds =>
    have l := hl ds rfl
    have lc := lcL_flag (tg := gN 3) (f := l0_are_within) (ρ := [some (.d (.tuple ds)), some (.d (.int lo)), some (.d (.int hi)), none]) (S := S) (inI lo hi) ds (fun x _ => ⟨_, rfl, by simp [l0_are_within, within_ok]⟩) (by omega)
    have al := all_bools (ds.map (inI lo hi)) S
    rw [List.all_map] at al
    have al : fAll [.d (.list ((ds.map (inI lo hi)).map PyData.bool))] S = .ok (.d (.bool (ds.all (inI lo hi)))) S := al
    generalize (ds.map (inI lo hi)).map PyData.bool = L at lc al
    simp [g_are_within, ap_fnOf, b_are_within, fIsi, isTy, seqOf, wipeE, List.replicate, lc, al, areB, leave]
  | _ => simp [g_are_within, ap_fnOf, b_are_within, fIsi, isTy, areB, List.replicate, leave]
theorem iD_of : ∀ (ds : List D) {lo hi : Int}, ds.all (inI lo hi) = true → ∃ xs : List Int, ds = iD xs ∧ ∀ x ∈ xs, lo ≤ x ∧ x ≤ hi := by
  intro ds
  induction ds with
  | nil => exact fun _ => ⟨[], rfl, by simp⟩
  | cons d ds ih =>
    intro lo hi h
    rw [List.all_cons, Bool.and_eq_true] at h
    obtain ⟨xs, rfl, hx⟩ := ih h.2
    cases d with
    | int i =>
      have h1 := h.1
      simp [inI] at h1
      exact ⟨i :: xs, rfl, fun x hm => by rcases List.mem_cons.mp hm with rfl | hm; exact h1; exact hx x hm⟩
    | _ => cases h.1
abbrev NE : Xn := ⟨"NoNeeds", []⟩
abbrev NS : Xn := ⟨"NoStarts", []⟩
abbrev NN : Xn := ⟨"NoNumber", []⟩
def needsB : D → Bool
  | .tuple ds => ds.all (inI 0 20) && (decide (1 ≤ (ds.length : Int)) && decide ((ds.length : Int) ≤ 24))
  | _ => false
theorem needs_core {ds : List D} {n : Int} {a : Bool} {S : Store} (hd : (ds.length : Int) = n) (h : g_are_within [.d (.tuple ds), .d (.int 0), .d (.int 20)] S = .ok (.d (.bool a)) S) : g_check_needs [.d (.tuple ds)] S = if (a && (decide (1 ≤ n) && decide (n ≤ 24))) = true then .ok (.d .none) S else .ex NE S := by
  cases a with
  | false => simp [g_check_needs, ap_fnOf, b_check_needs, List.replicate, h, leave]
  | true =>
    by_cases h1 : 1 ≤ n
    · by_cases h2 : n ≤ 24 <;> simp [g_check_needs, ap_fnOf, b_check_needs, List.replicate, h, hd, h1, h2, leave]
    · simp [g_check_needs, ap_fnOf, b_check_needs, List.replicate, h, hd, h1, leave]
theorem check_needs_ok (d : D) (S : Store) (hl : ∀ ds, d = .tuple ds → ds.length ≤ 900) : g_check_needs [.d d] S = if needsB d = true then .ok (.d .none) S else .ex NE S := by
  have a := are_ok d 0 20 S hl
  cases d with
  | tuple ds => exact needs_core rfl a
  | _ => simp [g_check_needs, ap_fnOf, b_check_needs, List.replicate, a, areB, needsB, leave]
theorem check_length_ok (d : D) (S : Store) : g_check_length [.d d] S = if inI 1 24 d = true then .ok (.d .none) S else .ex NN S := by
  cases h : inI 1 24 d <;> simp [g_check_length, ap_fnOf, b_check_length, within_ok, h, leave]
theorem check_both_ok (d e : D) (S : Store) (hl : ∀ ds, d = .tuple ds → ds.length ≤ 900) : g_check_both [.d d, .d e] S = if needsB d = true then (if inI 1 24 e = true then .ok (.d .none) S else .ex NN S) else .ex NE S := by
  cases h : needsB d <;> cases h2 : inI 1 24 e <;> simp [g_check_both, ap_fnOf, b_check_both, check_needs_ok d S hl, check_length_ok, h, h2, leave]
def startsB : D → Bool
  | .tuple ds => ds.all (inI 0 1000) && (decide (1 ≤ (ds.length : Int)) && decide ((ds.length : Int) ≤ 24))
  | _ => false
theorem starts_core {ds : List D} {n : Int} {a : Bool} {S : Store} (hd : (ds.length : Int) = n) (h : g_are_within [.d (.tuple ds), .d (.int 0), .d (.int 1000)] S = .ok (.d (.bool a)) S) : g_check_starts [.d (.tuple ds)] S = if (a && (decide (1 ≤ n) && decide (n ≤ 24))) = true then .ok (.d .none) S else .ex NS S := by
  cases a with
  | false => simp [g_check_starts, ap_fnOf, b_check_starts, List.replicate, h, leave]
  | true =>
    by_cases h1 : 1 ≤ n
    · by_cases h2 : n ≤ 24 <;> simp [g_check_starts, ap_fnOf, b_check_starts, List.replicate, h, hd, h1, h2, leave]
    · simp [g_check_starts, ap_fnOf, b_check_starts, List.replicate, h, hd, h1, leave]
theorem check_starts_ok (d : D) (S : Store) (hl : ∀ ds, d = .tuple ds → ds.length ≤ 900) : g_check_starts [.d d] S = if startsB d = true then .ok (.d .none) S else .ex NS S := by
  have a := are_ok d 0 1000 S hl
  cases d with
  | tuple ds => exact starts_core rfl a
  | _ => simp [g_check_starts, ap_fnOf, b_check_starts, List.replicate, a, areB, startsB, leave]
structure OkN (N : List Int) : Prop where
  l1 : 1 ≤ N.length
  l2 : N.length ≤ 24
  bd : ∀ x ∈ N, 0 ≤ x ∧ x ≤ 20
abbrev nD (N : List Int) : D := .tuple (iD N)
theorem OkN.ok {N : List Int} (h : OkN N) : needsB (nD N) = true := by
  have e : (iD N).all (inI 0 20) = true := by
    unfold iD
    rw [List.all_map, List.all_eq_true]
    intro x hx
    have := h.bd x hx
    simp [inI, this]
  have l1 := h.l1
  have l2 := h.l2
  simp only [needsB, e, iD_len, Bool.true_and, Bool.and_eq_true, decide_eq_true_eq]
  omega
theorem OkN.hl {N : List Int} (h : OkN N) : ∀ ds, nD N = .tuple ds → ds.length ≤ 900 := fun ds e => by
  cases e
  have := h.l2
  rw [iD_len]
  omega
theorem OkN.both {N : List Int} (h : OkN N) {L : Int} (hL : 1 ≤ L ∧ L ≤ 24) (S : Store) : g_check_both [.d (nD N), .d (.int L)] S = .ok (.d .none) S := by
  rw [check_both_ok _ _ _ h.hl, h.ok, show inI 1 24 (.int L) = true by simp [inI, hL]]
  rfl
theorem OkN.need {N : List Int} (h : OkN N) (S : Store) : g_check_needs [.d (nD N)] S = .ok (.d .none) S := by
  rw [check_needs_ok _ _ h.hl, h.ok]
  rfl
structure OkS (F : List Int) : Prop where
  l1 : 1 ≤ F.length
  l2 : F.length ≤ 24
  bd : ∀ x ∈ F, 0 ≤ x ∧ x ≤ 1000
theorem OkS.chk {F : List Int} (h : OkS F) (S : Store) : g_check_starts [.d (nD F)] S = .ok (.d .none) S := by
  have l1 := h.l1
  have l2 := h.l2
  have e : (iD F).all (inI 0 1000) = true := by
    unfold iD
    rw [List.all_map, List.all_eq_true]
    intro x hx
    have := h.bd x hx
    simp [inI, this]
  have e2 : startsB (nD F) = true := by
    simp only [startsB, e, iD_len, Bool.true_and, Bool.and_eq_true, decide_eq_true_eq]
    omega
  rw [check_starts_ok _ _ (fun ds e => by (cases e; rw [iD_len]; omega)), e2]
  rfl
set_option exponentiation.threshold 5000
theorem fn_ret {n : Nat} {sb : Sv} {vs : List Vl} {S S1 : Store} {v : D} (h : sb (vs.map some ++ List.replicate (n - vs.length) none) S = .ret (.d v) S1) : fnOf n sb vs S = .ok (.d v) (S1.take S.length) := by
  rw [ap_fnOf, h]
  rfl
theorem iRange_1 {fs : Av} {ρ : Env} {S S1 : Store} {j : Int} (h : fs ρ S = .ok [.d (.int j)] S1) (h1 : -1000000 ≤ j) (h2 : j < 1000000) : iRange fs ρ S = .ok (rangeD 0 j) S1 := by
  have a : -(2 ^ 62) ≤ j ∧ j < 2 ^ 62 := by omega
  unfold iRange
  rw [h, bind_ok]
  simp only [view_d, if_pos a]
theorem rangeD_iD {n : Nat} {j : Int} (h : j = n) : rangeD 0 j = (List.range n).map fun (i : Nat) => .int (i : Nat) := by
  subst h
  unfold rangeD
  rw [Int.sub_zero, Int.toNat_natCast]
  apply List.map_congr_left
  intro i _
  simp
theorem aC {f : Ev} {fs : Av} {ρ : Env} {S S1 S2 : Store} {v : Vl} {vs : List Vl} (h : f ρ S = .ok v S1) (h2 : fs ρ S1 = .ok vs S2) : aCons f fs ρ S = .ok (v :: vs) S2 := by
  rw [ap_aCons, h, bind_ok, h2, bind_ok]
theorem aN {ρ : Env} {S : Store} : aNil ρ S = .ok [] S := rfl
theorem put_ok {fo fi fe : Ev} {ρ : Env} {S : Store} {n j : Nat} {k : Int} {d : D} {xs : List D} (he : fe ρ S = .ok (.d d) S) (ho : fo ρ S = .ok (.loc n) S) (hi : fi ρ S = .ok (.d (.int k)) S) (hn : S[n]? = some (.lst xs)) (hj : ixN xs.length k = some j) : sPut fo fi fe ρ S = .nx ρ (S.set n (.lst (xs.set j d))) := by
  rw [ap_sPut, he, st_ok, fr_d, st_ok, ho, st_ok, hi, st_ok]
  simp only [view_d, hn, hj]
theorem cut_mid (xs : List D) {a b : Nat} (h : a ≤ b) (hb : b ≤ xs.length) : cutD xs (some (a : Int)) (some (b : Int)) = (xs.take b).drop a := by
  unfold cutD
  rw [HT.sIx_nat, HT.sIx_nat, Nat.min_eq_left hb, Nat.min_eq_left (by omega), List.drop_take]
theorem take_iD (f : List Int) (a b : Nat) : ((iD f).take b).drop a = iD ((f.take b).drop a) := by
  unfold iD
  rw [← List.map_take, ← List.map_drop]
def Seen (v : Vl) (S : Store) (F : List Int) : Prop := (∃ n, v = .loc n ∧ S[n]? = some (.lst (iD F))) ∨ v = .d (.tuple (iD F))
theorem Seen.sl {v : Vl} {S : Store} {F : List Int} (s : Seen v S F) {a b : Nat} (h : a ≤ b) (hb : b ≤ F.length) : ∃ Y, slV false v (some (a : Int)) (some (b : Int)) S = .ok (.d Y) S ∧ fSumX [.d Y] S = .ok (.d (.int (pre F b - pre F a))) S := by
  have c := cut_mid (iD F) h (by rw [iD_len]; exact hb)
  rw [take_iD] at c
  have e := slice_sum F a b h
  rcases s with ⟨n, rfl, hn⟩ | rfl
  · refine ⟨.list (iD ((F.take b).drop a)), ?_, ?_⟩
    · simp [slV, view, hn, c]
    · rw [sumX_list, e]
  · refine ⟨.tuple (iD ((F.take b).drop a)), ?_, ?_⟩
    · simp [slV, c]
    · rw [sumX_tup, e]
theorem Seen.ln {v : Vl} {S : Store} {F : List Int} (s : Seen v S F) : fLen [v] S = .ok (.d (.int F.length)) S := by
  rcases s with ⟨n, rfl, hn⟩ | rfl
  · simp [fLen, view, hn, iD_len]
  · simp [fLen, iD_len]
def wk (L : Nat) (F : List Int) : List Int := (List.range F.length).map fun h => pre F (h + 1) - pre F (h + 1 - L)
theorem wk_len {L : Nat} {F : List Int} : (wk L F).length = F.length := by simp [wk]
theorem wk_at {L h : Nat} {F : List Int} (hh : h < F.length) : atN (wk L F) h = pre F (h + 1) - pre F (h + 1 - L) := by
  rw [atN_lt (by rw [wk_len]; exact hh)]
  simp [wk]
theorem lo_if {z : Int} {L h : Nat} (hz : z = (L : Int)) (hL : 1 ≤ L) : (if 0 < (h : Int) - z + 1 then (h : Int) - z + 1 else 0) = ((h + 1 - L : Nat) : Int) := by
  split <;> omega
section
variable {v : Vl} {S : Store} {F : List Int} {z a h s : Int} {Y : D}
theorem lwk_core (hlo : (if 0 < h - z + 1 then h - z + 1 else 0) = a) (hv : slV false v (some a) (some (h + 1)) S = .ok (.d Y) S) (hs : fSumX [.d Y] S = .ok (.d (.int s)) S) : l0__law_work [some v, some (.d (.int z)), some (.d (.int h))] S = .ok (.d (.int s)) S := by
  simp [l0__law_work, fMax2, hlo, hv, hs]
theorem pwk_core (hlo : (if 0 < h - z + 1 then h - z + 1 else 0) = a) (hv : slV false v (some a) (some (h + 1)) S = .ok (.d Y) S) (hs : fSumX [.d Y] S = .ok (.d (.int s)) S) : l0_raw_at_work [some v, some (.d (.int z)), some (.d (.int h))] S = .ok (.d (.int s)) S := by
  simp [l0_raw_at_work, fMax2, hlo, hv, hs]
theorem work_el (sn : Seen v S F) {L : Nat} (hz : z = (L : Int)) (hL : 1 ≤ L) {i : Nat} (hi : i < F.length) (f : Ev) (hf : ∀ (a h s : Int) (Y : D), (if 0 < h - z + 1 then h - z + 1 else 0) = a → slV false v (some a) (some (h + 1)) S = .ok (.d Y) S → fSumX [.d Y] S = .ok (.d (.int s)) S → f [some v, some (.d (.int z)), some (.d (.int h))] S = .ok (.d (.int s)) S) : f [some v, some (.d (.int z)), some (.d (.int (i : Nat)))] S = .ok (.d (.int (pre F (i + 1) - pre F (i + 1 - L)))) S := by
  obtain ⟨Y, e1, e2⟩ := sn.sl (a := i + 1 - L) (b := i + 1) (by omega) (by omega)
  exact hf _ _ _ Y (lo_if hz hL) e1 e2
theorem work_lc (sn : Seen v S F) {L : Nat} (hz : z = (L : Int)) (hL : 1 ≤ L) (hl : F.length ≤ 900) (f : Ev) (hf : ∀ (a h s : Int) (Y : D), (if 0 < h - z + 1 then h - z + 1 else 0) = a → slV false v (some a) (some (h + 1)) S = .ok (.d Y) S → fSumX [.d Y] S = .ok (.d (.int s)) S → f [some v, some (.d (.int z)), some (.d (.int h))] S = .ok (.d (.int s)) S) : lcL (gN 2) tYesD f [some v, some (.d (.int z)), none] (rangeD 0 (F.length : Int)) [] S = .ok (iD (wk L F)) S := by
  rw [rangeD_iD (n := F.length) rfl]
  have lc := lcL_map (tg := gN 2) (f := f) (ρ := [some v, some (.d (.int z)), none]) (S := S) (fun i : Nat => PyData.int i) (fun i => .int (pre F (i + 1) - pre F (i + 1 - L))) (List.range F.length) (fun i hi => ⟨_, rfl, work_el sn hz hL (List.mem_range.mp hi) f hf⟩) (by simp; omega)
  rw [show (List.range F.length).map (fun i => PyData.int (pre F (i + 1) - pre F (i + 1 - L))) = iD (wk L F) by unfold wk iD; rw [List.map_map]; rfl] at lc
  exact lc
theorem law_work_ok (sn : Seen v S F) {L : Nat} (hz : z = (L : Int)) (hL : 1 ≤ L) (hl : F.length ≤ 900) : g__law_work [v, .d (.int z)] S = .ok (.d (.tuple (iD (wk L F)))) S := by
  have lc := work_lc sn hz hL hl l0__law_work (fun a h s Y h1 h2 h3 => lwk_core h1 h2 h3)
  have ln := sn.ln
  have it : iRange (aCons (eCall fLen (aCons (eVar 0) aNil)) aNil) [some v, some (.d (.int z)), none] S = .ok (rangeD 0 (F.length : Int)) S := iRange_1 (by simp [ln]) (by omega) (by omega)
  have key : b__law_work [some v, some (.d (.int z)), none] S = .ret (.d (.tuple (iD (wk L F)))) S := by
    generalize rangeD 0 (F.length : Int) = X at *
    generalize iD (wk L F) = W at *
    rw [b__law_work, ap_sRet, ap_eCall, ap_aCons, ap_eLc, it, bind_ok]
    simp [wipeE, lc, fTuple]
  rw [g__law_work]
  have := fn_ret (n := 3) (sb := b__law_work) (vs := [v, .d (.int z)]) key
  rw [this]
  simp
theorem prog_work_ok (sn : Seen v S F) {L : Nat} (hz : z = (L : Int)) (hL : 1 ≤ L) (hl : F.length ≤ 900) : g_raw_at_work [v, .d (.int z)] S = .ok (.d (.tuple (iD (wk L F)))) S := by
  have lc := work_lc sn hz hL hl l0_raw_at_work (fun a h s Y h1 h2 h3 => pwk_core h1 h2 h3)
  have ln := sn.ln
  have it : iRange (aCons (eCall fLen (aCons (eVar 0) aNil)) aNil) [some v, some (.d (.int z)), none] S = .ok (rangeD 0 (F.length : Int)) S := iRange_1 (by simp [ln]) (by omega) (by omega)
  have key : b_raw_at_work [some v, some (.d (.int z)), none] S = .ret (.d (.tuple (iD (wk L F)))) S := by
    generalize rangeD 0 (F.length : Int) = X at *
    generalize iD (wk L F) = W at *
    rw [b_raw_at_work, ap_sRet, ap_eCall, ap_aCons, ap_eLc, it, bind_ok]
    simp [wipeE, lc, fTuple]
  rw [g_raw_at_work]
  have := fn_ret (n := 3) (sb := b_raw_at_work) (vs := [v, .d (.int z)]) key
  rw [this]
  simp
end
def enumK (k : Nat) (ds : List D) : List D := (ds.zipIdx k).map fun p => .tuple [.int (p.2 : Nat), p.1]
theorem enumD_eq (ds : List D) : enumD ds = enumK 0 ds := rfl
theorem enumK_cons (k : Nat) (d : D) (ds : List D) : enumK k (d :: ds) = .tuple [.int (k : Nat), d] :: enumK (k + 1) ds := rfl
section
variable {S : Store} {x0 : Option Vl} {z n s : Int} {F : List Int} {L : Nat}
theorem set_end {F : List Int} {k : Nat} {x y : Int} : (F ++ y :: List.replicate k 0).set F.length x = (F ++ [x]) ++ List.replicate k 0 := by
  simp
theorem pg_core {a h p : Int} {u : Nat} {S1 : Store} {Y : D} (hlo : (if 0 < h - z + 1 then h - z + 1 else 0) = a) (hv : slV false (.loc u) (some a) (some h) S1 = .ok (.d Y) S1) (hs : fSumX [.d Y] S1 = .ok (.d (.int s)) S1) (hp : (if s < n then n - s else 0) = p) : eCall fMax2 (aCons (eD (.int 0)) (aCons (eBin oSub (eVar 4) (eCall fSumX (aCons (eSl false (eVar 2) (pAt (eCall fMax2 (aCons (eD (.int 0)) (aCons (eBin (oAdd false) (eBin oSub (eVar 3) (eVar 1)) (eD (.int 1))) aNil)))) (pAt (eVar 3))) aNil))) aNil)) [x0, some (.d (.int z)), some (.loc u), some (.d (.int h)), some (.d (.int n))] S1 = .ok (.d (.int p)) S1 := by
  simp [fMax2, hlo, hv, hs, hp]
theorem pg_step (hz : z = (L : Int)) (hL : 1 ≤ L) {k : Nat} : l0_raw_starts [x0, some (.d (.int z)), some (.loc S.length), some (.d (.int (F.length : Nat))), some (.d (.int n))] (S ++ [.lst (iD (F ++ List.replicate (k + 1) 0))]) = .nx [x0, some (.d (.int z)), some (.loc S.length), some (.d (.int (F.length : Nat))), some (.d (.int n))] (S ++ [.lst (iD ((F ++ [nxtG L F n]) ++ List.replicate k 0))]) := by
  have g1 : (S ++ [MO.lst (iD (F ++ List.replicate (k + 1) 0))])[S.length]? = some (.lst (iD (F ++ List.replicate (k + 1) 0))) := by simp
  have sn : Seen (.loc S.length) (S ++ [.lst (iD (F ++ List.replicate (k + 1) 0))]) (F ++ List.replicate (k + 1) 0) := .inl ⟨_, rfl, g1⟩
  obtain ⟨Y, e1, e2⟩ := sn.sl (a := F.length + 1 - L) (b := F.length) (by omega) (by simp)
  rw [pre_app (by omega), pre_app (by omega)] at e2
  have c := pg_core (x0 := x0) (n := n) (p := nxtG L F n) (lo_if hz hL) e1 e2 (by unfold nxtG; split <;> omega)
  have p := put_ok (fo := eVar 2) (fi := eVar 3) (j := F.length) c rfl rfl g1 (by rw [iD_len]; exact ixN_ok (by simp))
  rw [l0_raw_starts, p, iD_set]
  congr 1
  rw [show List.replicate (k + 1) (0 : Int) = 0 :: List.replicate k 0 from rfl, set_end]
  simp
theorem pg_loop (hz : z = (L : Int)) (hL : 1 ≤ L) : ∀ (ns F : List Int) (x3 x4 : Option Vl), ∃ y3 y4, forL (gT [gN 3, gN 4]) l0_raw_starts (enumK F.length (iD ns)) [x0, some (.d (.int z)), some (.loc S.length), x3, x4] (S ++ [.lst (iD (F ++ List.replicate ns.length 0))]) = .nx [x0, some (.d (.int z)), some (.loc S.length), y3, y4] (S ++ [.lst (iD (grF L F ns))]) := by
  intro ns
  induction ns with
  | nil => exact fun F x3 x4 => ⟨x3, x4, by simp [grF, iD, enumK]⟩
  | cons n ns ih =>
    intro F x3 x4
    have st := pg_step (S := S) (x0 := x0) (z := z) (n := n) (F := F) (k := ns.length) hz hL
    obtain ⟨y3, y4, e⟩ := ih (F ++ [nxtG L F n]) (some (.d (.int (F.length : Nat)))) (some (.d (.int n)))
    refine ⟨y3, y4, ?_⟩
    rw [show iD (n :: ns) = .int n :: iD ns from rfl, enumK_cons, ap_forL1, show gT [gN 3, gN 4] (.d (.tuple [.int (F.length : Nat), .int n])) [x0, some (.d (.int z)), some (.loc S.length), x3, x4] = some [x0, some (.d (.int z)), some (.loc S.length), some (.d (.int (F.length : Nat))), some (.d (.int n))] from rfl]
    rw [List.length_append] at e
    rw [List.length_cons]
    simp only [st]
    exact e
theorem mulT_zero {n : Nat} {S : Store} (hn : n ≤ 100) : oMul true (.d (.list [.int 0])) (.d (.int (n : Int))) S = .ok (.loc S.length) (S ++ [.lst (iD (List.replicate n 0))]) := by
  have h1 : -(2 ^ 63) ≤ (n : Int) ∧ (n : Int) < 2 ^ 63 ∧ [PyData.int 0].length * (n : Int).toNat ≤ sizeLine := ⟨by omega, by omega, line1000 (by simp; omega)⟩
  simp only [oMul, view_d, if_pos h1]
  rw [show (List.replicate (n : Int).toNat [PyData.int 0]).flatten = iD (List.replicate n 0) by
    rw [Int.toNat_natCast]
    unfold iD
    rw [List.map_replicate]
    generalize n = q
    induction q with
    | zero => rfl
    | succ q ih => rw [List.replicate_succ, List.flatten_cons, ih, List.replicate_succ]; rfl]
  rfl
theorem rs0_core {C : D} {nl : Int} {Z : List D} (ln : fLen [.d C] S = .ok (.d (.int nl)) S) (mu : oMul true (.d (.list [.int 0])) (.d (.int nl)) S = .ok (.loc S.length) (S ++ [.lst Z])) : sSet 2 (eBin (oMul true) (eLst false (aCons (eD (.int 0)) aNil)) (eCall fLen (aCons (eVar 0) aNil))) [some (.d C), some (.d (.int z)), none, none, none] S = .nx [some (.d C), some (.d (.int z)), some (.loc S.length), none, none] (S ++ [.lst Z]) := by
  have e : eCall fLen (aCons (eVar 0) aNil) [some (.d C), some (.d (.int z)), none, none, none] S = .ok (.d (.int nl)) S := by rw [ap_eCall, aC (f := eVar 0) rfl aN, bind_ok, ln]
  have e2 : eLst false (aCons (eD (.int 0)) aNil) [some (.d C), some (.d (.int z)), none, none, none] S = .ok (.d (.list [.int 0])) S := rfl
  rw [ap_sSet, ap_eBin, e2, bind_ok, e, bind_ok, mu]
  rfl
theorem raw_starts_ok {N : List Int} (hz : z = (L : Int)) (hL : 1 ≤ L) (hl : N.length ≤ 100) (S : Store) : g_raw_starts [.d (nD N), .d (.int z)] S = .ok (.d (.tuple (iD (gr L N)))) S := by
  obtain ⟨y3, y4, e⟩ := pg_loop (S := S) (x0 := some (.d (nD N))) hz hL N [] none none
  have mu := mulT_zero (S := S) hl
  have s0 := rs0_core (z := z) (C := nD N) (S := S) (Seen.ln (v := .d (nD N)) (.inr rfl)) mu
  have key : b_raw_starts [some (.d (nD N)), some (.d (.int z)), none, none, none] S = .ret (.d (.tuple (iD (gr L N)))) (S ++ [.lst (iD (gr L N))]) := by
    rw [b_raw_starts, ap_sCons, s0, seq_nx, ap_sCons, ap_sFor]
    conv => lhs; arg 1; simp [iEnumD, seqOf]
    rw [enumD_eq, show (0 : Nat) = ([] : List Int).length from rfl, show List.replicate N.length (0 : Int) = [] ++ List.replicate N.length 0 from rfl, e, seq_nx]
    simp [fTuple, view, gr]
  rw [g_raw_starts]
  have := fn_ret (n := 5) (sb := b_raw_starts) (vs := [.d (nD N), .d (.int z)]) key
  rw [this]
  simp
theorem lg_core {S1 : Store} {W : List D} {h w p : Int} {u : Nat} (hw : g__law_work [.loc u, .d (.int z)] S1 = .ok (.d (.tuple W)) S1) (ha : atI W h = some (.int w)) (hp : (if w < n then n - w else 0) = p) : eCall fMax2 (aCons (eD (.int 0)) (aCons (eBin oSub (eVar 4) (eBin oIx (eCallN 2 g__law_work (aCons (eVar 2) (aCons (eVar 1) aNil))) (eVar 3))) aNil)) [x0, some (.d (.int z)), some (.loc u), some (.d (.int h)), some (.d (.int n))] S1 = .ok (.d (.int p)) S1 := by
  simp [hw, fMax2, oIx, view, ha, oPost, hp]
theorem lg_step (hz : z = (L : Int)) (hL : 1 ≤ L) (hl : F.length ≤ 100) : l0__law_latest [x0, some (.d (.int z)), some (.loc S.length), some (.d (.int (F.length : Nat))), some (.d (.int n))] (S ++ [.lst (iD F)]) = .nx [x0, some (.d (.int z)), some (.loc S.length), some (.d (.int (F.length : Nat))), some (.d (.int n))] (S ++ [.lst (iD (F ++ [nxtG L F n]))]) := by
  have g0 : (S ++ [MO.lst (iD F)])[S.length]? = some (.lst (iD F)) := by simp
  have sz : F.length < sizeLine := Nat.lt_of_lt_of_le (by omega) (line1000 (Nat.le_refl 1000))
  have s0 : sExpr (eApp (eVar 2) (eD (.int 0))) [x0, some (.d (.int z)), some (.loc S.length), some (.d (.int (F.length : Nat))), some (.d (.int n))] (S ++ [.lst (iD F)]) = .nx [x0, some (.d (.int z)), some (.loc S.length), some (.d (.int (F.length : Nat))), some (.d (.int n))] (S ++ [.lst (iD (F ++ [0]))]) := by
    simp [isLst, putApp, sz, iD_len]
    simp [iD]
  have g1 : (S ++ [MO.lst (iD (F ++ [0]))])[S.length]? = some (.lst (iD (F ++ [0]))) := by simp
  have w := law_work_ok (v := .loc S.length) (S := S ++ [.lst (iD (F ++ [0]))]) (F := F ++ [0]) (.inl ⟨_, rfl, g1⟩) hz hL (by simp; omega)
  have a : atI (iD (wk L (F ++ [0]))) ((F.length : Nat) : Int) = some (.int (pre F F.length - pre F (F.length + 1 - L))) := by
    rw [at_iD (by rw [wk_len]; simp), wk_at (by simp), pre_succ (by simp), pre_app (by omega), pre_app (by omega)]
    have : atN (F ++ [0]) F.length = 0 := by simp [atN]
    rw [this, Int.add_zero]
  have c := lg_core (x0 := x0) (n := n) (p := nxtG L F n) w a (by unfold nxtG; split <;> omega)
  have p := put_ok (fo := eVar 2) (fi := eVar 3) (j := F.length) c rfl rfl g1 (by rw [iD_len]; exact ixN_ok (by simp))
  rw [l0__law_latest, ap_sCons, s0, seq_nx, p, iD_set]
  congr 1
  simp
theorem lg_loop (hz : z = (L : Int)) (hL : 1 ≤ L) : ∀ (ns F : List Int) (x3 x4 : Option Vl), F.length + ns.length ≤ 100 → ∃ y3 y4, forL (gT [gN 3, gN 4]) l0__law_latest (enumK F.length (iD ns)) [x0, some (.d (.int z)), some (.loc S.length), x3, x4] (S ++ [.lst (iD F)]) = .nx [x0, some (.d (.int z)), some (.loc S.length), y3, y4] (S ++ [.lst (iD (grF L F ns))]) := by
  intro ns
  induction ns with
  | nil => exact fun F x3 x4 _ => ⟨x3, x4, by simp [grF, iD, enumK]⟩
  | cons n ns ih =>
    intro F x3 x4 hl
    have hl' : F.length + (ns.length + 1) ≤ 100 := hl
    have st := lg_step (S := S) (x0 := x0) (z := z) (n := n) (F := F) hz hL (by omega)
    obtain ⟨y3, y4, e⟩ := ih (F ++ [nxtG L F n]) (some (.d (.int (F.length : Nat)))) (some (.d (.int n))) (by simp; omega)
    refine ⟨y3, y4, ?_⟩
    rw [show iD (n :: ns) = .int n :: iD ns from rfl, enumK_cons, ap_forL1, show gT [gN 3, gN 4] (.d (.tuple [.int (F.length : Nat), .int n])) [x0, some (.d (.int z)), some (.loc S.length), x3, x4] = some [x0, some (.d (.int z)), some (.loc S.length), some (.d (.int (F.length : Nat))), some (.d (.int n))] from rfl]
    rw [List.length_append] at e
    simp only [st]
    exact e
theorem latest_ok {N : List Int} (hz : z = (L : Int)) (hL : 1 ≤ L) (hl : N.length ≤ 100) (S : Store) : g__law_latest [.d (nD N), .d (.int z)] S = .ok (.d (.tuple (iD (gr L N)))) S := by
  obtain ⟨y3, y4, e⟩ := lg_loop (S := S) (x0 := some (.d (nD N))) hz hL N [] none none (by simp; omega)
  have key : b__law_latest [some (.d (nD N)), some (.d (.int z)), none, none, none] S = .ret (.d (.tuple (iD (gr L N)))) (S ++ [.lst (iD (gr L N))]) := by
    rw [b__law_latest, ap_sCons]
    conv => lhs; arg 1; simp
    rw [seq_nx, ap_sCons, ap_sFor]
    conv => lhs; arg 1; simp [iEnumD, seqOf]
    rw [enumD_eq, show (0 : Nat) = ([] : List Int).length from rfl, show (S ++ [MO.lst []]) = S ++ [.lst (iD [])] from rfl, e, seq_nx]
    simp [fTuple, view, gr]
  rw [g__law_latest]
  have := fn_ret (n := 5) (sb := b__law_latest) (vs := [.d (nD N), .d (.int z)]) key
  rw [this]
  simp
end
set_option exponentiation.threshold 5000
def enB (N W : List Int) : Bool := (List.zip W N).all fun p => decide (p.2 ≤ p.1)
def intsD (ds : List D) : List Int := ds.filterMap fun d => match d with | .int i => some i | _ => none
theorem intsD_iD (xs : List Int) : intsD (iD xs) = xs := by
  unfold intsD iD
  induction xs with
  | nil => rfl
  | cons x xs ih => simp [ih]
theorem zip_iD (f g : List Int) : zipD (iD f) (iD g) = (List.zip f g).map fun p => .tuple [.int p.1, .int p.2] := zip_map PyData.int PyData.int f g
section
variable {N : List Int} {z : Int} {L : Nat} {S : Store}
theorem en_lc (C T : D) (f W : List Int) (ev : Ev) (x y : Option Vl) (hl : N.length ≤ 100) (hf : ∀ (a b : Int), ev [some (.d C), x, y, some (.d (.int a)), some (.d (.int b))] S = .ok (.d (.bool (decide (b ≤ a)))) S) : lcL (gT [gN 3, gN 4]) tYesD ev [some (.d C), x, y, none, none] (zipD (iD W) (iD N)) [] S = .ok (((List.zip W N).map fun p => decide (p.2 ≤ p.1)).map PyData.bool) S := by
  rw [zip_iD]
  have lc := lcL_map (tg := gT [gN 3, gN 4]) (f := ev) (ρ := [some (.d C), x, y, none, none]) (S := S) (fun p : Int × Int => .tuple [.int p.1, .int p.2]) (fun p => .bool (decide (p.2 ≤ p.1))) (List.zip W N) (fun p _ => ⟨_, rfl, hf p.1 p.2⟩) (by simp; omega)
  rw [List.map_map]
  exact lc
theorem en_all (W : List Int) : fAll [.d (.list (((List.zip W N).map fun p => decide (p.2 ≤ p.1)).map PyData.bool))] S = .ok (.d (.bool (enB N W))) S := by
  have al := all_bools ((List.zip W N).map fun p => decide (p.2 ≤ p.1)) S
  rw [List.all_map] at al
  exact al
theorem call2k {f : Fn} {e1 e2 : Ev} {v1 v2 v : Vl} {ρ : Env} (h1 : e1 ρ S = .ok v1 S) (h2 : e2 ρ S = .ok v2 S) (h : f [v1, v2] S = .ok v S) : eCallN 2 f (aCons e1 (aCons e2 aNil)) ρ S = .ok v S := by
  rw [ap_eCallN, aC h1 (aC h2 aN), bind_ok, if_pos (show [v1, v2].length = 2 from rfl), h]
theorem zip_tt {f g : Ev} {ρ : Env} {W Ns : List D} (h1 : f ρ S = .ok (.d (.tuple W)) S) (h2 : g ρ S = .ok (.d (.tuple Ns)) S) : iZipX (aCons f (aCons g aNil)) ρ S = .ok (zipD W Ns) S := by
  unfold iZipX
  rw [aC h1 (aC h2 aN), bind_ok]
  rfl
theorem li_int (d : D) (S : Store) : g__law_is_int [.d d] S = .ok (.d (.bool (isI d))) S := by
  cases d <;> simp [g__law_is_int, ap_fnOf, b__law_is_int, fIsi, isTy, isI]
theorem en_core {ds Ns W B2 : List D} {e : Bool} (w1 : g_raw_at_work [.d (.tuple ds), .d (.int z)] S = .ok (.d (.tuple W)) S) (w2 : lcL (gT [gN 3, gN 4]) tYesD l0_are_enough [some (.d (.tuple Ns)), some (.d (.tuple ds)), some (.d (.int z)), none, none] (zipD W Ns) [] S = .ok B2 S) (w3 : fAll [.d (.list B2)] S = .ok (.d (.bool e)) S) : g_are_enough [.d (.tuple Ns), .d (.tuple ds), .d (.int z)] S = .ok (.d (.bool e)) S := by
  have key : b_are_enough [some (.d (.tuple Ns)), some (.d (.tuple ds)), some (.d (.int z)), none, none] S = .ret (.d (.bool e)) S := by
    rw [b_are_enough, ap_sRet, ap_eCall, ap_aCons, ap_eLc, zip_tt (g := eVar 0) (call2k (e1 := eVar 1) (e2 := eVar 2) rfl rfl w1) rfl, bind_ok]
    simp [wipeE, w2, w3]
  rw [g_are_enough]
  have := fn_ret (n := 5) (sb := b_are_enough) (vs := [.d (.tuple Ns), .d (.tuple ds), .d (.int z)]) key
  rw [this]
  simp
theorem enough_ok (hz : z = (L : Int)) (hL : 1 ≤ L) (h : OkN N) (f : List Int) (hf : f.length ≤ 900) : g_are_enough [.d (nD N), .d (.tuple (iD f)), .d (.int z)] S = .ok (.d (.bool (enB N (wk L f)))) S := by
  have l2 := h.l2
  exact en_core (prog_work_ok (v := .d (.tuple (iD f))) (.inr rfl) hz hL hf) (en_lc (nD N) (nD N) f (wk L f) l0_are_enough (some (.d (.tuple (iD f)))) (some (.d (.int z))) (by omega) (fun a b => by simp [l0_are_enough])) (en_all _)
theorem en_fe {f : List Int} (hl : f.length = N.length) : enB N (wk L f) = true ↔ ∀ h, h < N.length → atN N h ≤ pre f (h + 1) - pre f (h + 1 - L) := by
  unfold enB
  rw [List.all_eq_true]
  constructor
  · intro h3 h hh
    have hf : h < f.length := by omega
    have m : (atN (wk L f) h, atN N h) ∈ List.zip (wk L f) N := by
      rw [List.mem_iff_getElem?]
      refine ⟨h, ?_⟩
      rw [List.getElem?_zip_eq_some, atN_lt (by rw [wk_len]; exact hf), atN_lt hh]
      exact ⟨List.getElem?_eq_getElem (by rw [wk_len]; exact hf), List.getElem?_eq_getElem hh⟩
    have := h3 _ m
    simp only [decide_eq_true_eq] at this
    rw [wk_at hf] at this
    exact this
  · intro h3 p hp
    obtain ⟨i, hi⟩ := List.mem_iff_getElem?.mp hp
    rw [List.getElem?_zip_eq_some] at hi
    obtain ⟨i1, e1⟩ := List.getElem?_eq_some_iff.mp hi.1
    obtain ⟨i2, e2⟩ := List.getElem?_eq_some_iff.mp hi.2
    have := h3 i i2
    rw [← wk_at (by rw [wk_len] at i1; exact i1), atN_lt i1, atN_lt i2, e1, e2] at this
    simpa using this
end
set_option exponentiation.threshold 5000
abbrev Pr := Int × List Nat
def prD (p : Pr) : D := .tuple [.int p.1, rwD (cst p.2)]
theorem oIx_at {v : Vl} {ds : List D} {i : Int} {d : D} {S : Store} (h : view S v = some (.list ds)) (e : atI ds i = some d) : oIx v (.d (.int i)) S = .ok (.d d) S := by
  simp only [oIx, h, view_d, e]
  rfl
theorem rows_min1 (f : List Int) (S : Store) : fMin1 [.d (.list [rwD f])] S = .ok (.d (rwD f)) S := by
  have a := alikeOk_rows [f]
  have ok := seqok_rows [f]
  simp only [List.map_cons, List.map_nil] at a ok
  simp [fMin1, fSeq, view, seqOf, ok, a]
  rfl
theorem rows_min2 (f g : List Int) (S : Store) : fMin1 [.d (.list [rwD f, rwD g])] S = .ok (.d (rwD (if ltL g f = true then g else f))) S := by
  have a := alikeOk_rows [f, g]
  have ok := seqok_rows [f, g]
  simp only [List.map_cons, List.map_nil] at a ok
  have e : PySem.W.minD (rwD f) [rwD g] = if PySem.W.dataLt (rwD g) (rwD f) = true then rwD g else rwD f := rfl
  rw [dlt_r] at e
  by_cases q : ltL g f = true
  · rw [if_pos q] at e ⊢
    simp [fMin1, fSeq, view, seqOf, ok, a, e]
  · rw [if_neg q] at e ⊢
    simp [fMin1, fSeq, view, seqOf, ok, a, e]
section
variable {C : D} {Ns Ls : List D} {z h bv nh : Int} {u : Nat} {A al : D} {S : Store} {x4 x5 x6 x7 : Option Vl}
theorem ap1 (e : oIx (.loc u) (.d (.int (h + z))) S = .ok (.d (.tuple [.int bv, .tuple Ls])) S) : sAsg (gT [(gN 4), (gN 5)]) (eBin oIx (eVar 2) (eBin (oAdd false) (eVar 3) (eVar 1))) [some (.d C), some (.d (.int z)), some (.loc u), some (.d (.int h)), x4, x5, x6, x7, none] S = .nx [some (.d C), some (.d (.int z)), some (.loc u), some (.d (.int h)), some (.d (.int bv)), some (.d (.tuple Ls)), x6, x7, none] S := by
  simp [sAsg, e]
theorem ap2 (e : oIx (.loc u) (.d (.int (h + 1))) S = .ok (.d A) S) (n : atI Ns h = some (.int nh)) (hl : Ls.length ≤ 900) : sSet 6 (eLst false (aCons (eBin oIx (eVar 2) (eBin (oAdd false) (eVar 3) (eD (.int 1)))) (aCons (eTup (aCons (eBin (oAdd false) (eBin oIx (eVar 0) (eVar 3)) (eVar 4)) (aCons (eBin (oAdd false) (eTup (aCons (eVar 3) aNil)) (eVar 5)) aNil))) aNil))) [some (.d (.tuple Ns)), some (.d (.int z)), some (.loc u), some (.d (.int h)), some (.d (.int bv)), some (.d (.tuple Ls)), x6, x7, none] S = .nx [some (.d (.tuple Ns)), some (.d (.int z)), some (.loc u), some (.d (.int h)), some (.d (.int bv)), some (.d (.tuple Ls)), some (.d (.list [A, .tuple [.int (nh + bv), .tuple (.int h :: Ls)]])), x7, none] S := by
  have b1 : eBin oIx (eVar 2) (eBin (oAdd false) (eVar 3) (eD (.int 1))) [some (.d (.tuple Ns)), some (.d (.int z)), some (.loc u), some (.d (.int h)), some (.d (.int bv)), some (.d (.tuple Ls)), x6, x7, none] S = .ok (.d A) S := by simp [e]
  have b2 : eBin (oAdd false) (eBin oIx (eVar 0) (eVar 3)) (eVar 4) [some (.d (.tuple Ns)), some (.d (.int z)), some (.loc u), some (.d (.int h)), some (.d (.int bv)), some (.d (.tuple Ls)), x6, x7, none] S = .ok (.d (.int (nh + bv))) S := by simp [oIx, view, n, oPost]
  have t1 : eTup (aCons (eVar 3) aNil) [some (.d (.tuple Ns)), some (.d (.int z)), some (.loc u), some (.d (.int h)), some (.d (.int bv)), some (.d (.tuple Ls)), x6, x7, none] S = .ok (.d (.tuple [.int h])) S := rfl
  have sz : 1 + Ls.length ≤ sizeLine := line1000 (by omega)
  have ad : oAdd false (.d (.tuple [.int h])) (.d (.tuple Ls)) S = .ok (.d (.tuple (.int h :: Ls))) S := by
    simp [oAdd]
    omega
  have b3 : eBin (oAdd false) (eTup (aCons (eVar 3) aNil)) (eVar 5) [some (.d (.tuple Ns)), some (.d (.int z)), some (.loc u), some (.d (.int h)), some (.d (.int bv)), some (.d (.tuple Ls)), x6, x7, none] S = .ok (.d (.tuple (.int h :: Ls))) S := by
    rw [ap_eBin, t1, bind_ok, show eVar 5 [some (.d (.tuple Ns)), some (.d (.int z)), some (.loc u), some (.d (.int h)), some (.d (.int bv)), some (.d (.tuple Ls)), x6, x7, none] S = .ok (.d (.tuple Ls)) S from rfl, bind_ok, ad]
  have t2 : eTup (aCons (eBin (oAdd false) (eBin oIx (eVar 0) (eVar 3)) (eVar 4)) (aCons (eBin (oAdd false) (eTup (aCons (eVar 3) aNil)) (eVar 5)) aNil)) [some (.d (.tuple Ns)), some (.d (.int z)), some (.loc u), some (.d (.int h)), some (.d (.int bv)), some (.d (.tuple Ls)), x6, x7, none] S = .ok (.d (.tuple [.int (nh + bv), .tuple (.int h :: Ls)])) S := by
    rw [ap_eTup, aC b2 (aC b3 aN), bind_ok]
    rfl
  have Lst : eLst false (aCons (eBin oIx (eVar 2) (eBin (oAdd false) (eVar 3) (eD (.int 1)))) (aCons (eTup (aCons (eBin (oAdd false) (eBin oIx (eVar 0) (eVar 3)) (eVar 4)) (aCons (eBin (oAdd false) (eTup (aCons (eVar 3) aNil)) (eVar 5)) aNil))) aNil)) [some (.d (.tuple Ns)), some (.d (.int z)), some (.loc u), some (.d (.int h)), some (.d (.int bv)), some (.d (.tuple Ls)), x6, x7, none] S = .ok (.d (.list [A, .tuple [.int (nh + bv), .tuple (.int h :: Ls)]])) S := by
    rw [ap_eLst, aC b1 (aC t2 aN), bind_ok]
    rfl
  rw [ap_sSet, Lst]
  rfl
def two (a b : Int × D) : List D := [.tuple [.int a.1, a.2], .tuple [.int b.1, b.2]]
theorem ap3 (a b : Int × D) : sSet 7 (eCall fMax1 (aCons (eLc false (iSeq (eVar 6)) (gN 8) tYesD l0_raw_apart [8]) aNil)) [some (.d C), some (.d (.int z)), some (.loc u), some (.d (.int h)), x4, x5, some (.d (.list (two a b))), x7, none] S = .nx [some (.d C), some (.d (.int z)), some (.loc u), some (.d (.int h)), x4, x5, some (.d (.list (two a b))), some (.d (.int (max a.1 b.1))), none] S := by
  have lc := lcL_map (tg := gN 8) (f := l0_raw_apart) (ρ := [some (.d C), some (.d (.int z)), some (.loc u), some (.d (.int h)), x4, x5, some (.d (.list (two a b))), x7, none]) (S := S) (fun p : Int × D => .tuple [.int p.1, p.2]) (fun p => .int p.1) [a, b] (fun p _ => ⟨[some (.d C), some (.d (.int z)), some (.loc u), some (.d (.int h)), x4, x5, some (.d (.list (two a b))), x7, some (.d (.tuple [.int p.1, p.2]))], rfl, by simp [l0_raw_apart, oIx, view, atI, ixN, oPost]⟩) (by simp)
  have mx := max_of (v := .d (.list (iD [a.1, b.1]))) (F := [a.1, b.1]) (S := S) rfl (by simp)
  have e1 : eLc false (iSeq (eVar 6)) (gN 8) tYesD l0_raw_apart [8] [some (.d C), some (.d (.int z)), some (.loc u), some (.d (.int h)), x4, x5, some (.d (.list (two a b))), x7, none] S = .ok (.d (.list (iD [a.1, b.1]))) S := by
    rw [ap_eLc, show iSeq (eVar 6) [some (.d C), some (.d (.int z)), some (.loc u), some (.d (.int h)), x4, x5, some (.d (.list (two a b))), x7, none] S = .ok (two a b) S from rfl, bind_ok]
    rw [show two a b = [a, b].map fun p : Int × D => PyData.tuple [.int p.1, p.2] from rfl] at lc ⊢
    rw [show wipeE [some (.d C), some (.d (.int z)), some (.loc u), some (.d (.int h)), x4, x5, some (.d (.list ([a, b].map fun p : Int × D => PyData.tuple [.int p.1, p.2]))), x7, none] [8] = [some (.d C), some (.d (.int z)), some (.loc u), some (.d (.int h)), x4, x5, some (.d (.list ([a, b].map fun p : Int × D => PyData.tuple [.int p.1, p.2]))), x7, none] from rfl, lc, bind_ok]
    rfl
  rw [ap_sSet, ap_eCall, aC e1 aN, bind_ok, mx]
  rfl
theorem ap4 (a b : Int × D) {m : D} {Lm : List D} (hL : ([a, b].filter fun p => decide (p.1 = max a.1 b.1)).map (fun p => p.2) = Lm) (mn : fMin1 [.d (.list Lm)] S = .ok (.d m) S) {xs : List D} {j : Nat} (hn : S[u]? = some (.lst xs)) (hj : ixN xs.length h = some j) : sPut (eVar 2) (eVar 3) (eTup (aCons (eVar 7) (aCons (eCall fMin1 (aCons (eLc false (iSeq (eVar 6)) (gN 8) l2_raw_apart l1_raw_apart [8]) aNil)) aNil))) [some (.d C), some (.d (.int z)), some (.loc u), some (.d (.int h)), x4, x5, some (.d (.list (two a b))), some (.d (.int (max a.1 b.1))), none] S = .nx [some (.d C), some (.d (.int z)), some (.loc u), some (.d (.int h)), x4, x5, some (.d (.list (two a b))), some (.d (.int (max a.1 b.1))), none] (S.set u (.lst (xs.set j (.tuple [.int (max a.1 b.1), m])))) := by
  have lc := lcL_fm (tg := gN 8) (t := l2_raw_apart) (f := l1_raw_apart) (ρ := [some (.d C), some (.d (.int z)), some (.loc u), some (.d (.int h)), x4, x5, some (.d (.list (two a b))), some (.d (.int (max a.1 b.1))), none]) (S := S) (fun p : Int × D => .tuple [.int p.1, p.2]) (fun p => decide (p.1 = max a.1 b.1)) (fun p => p.2) [a, b] (fun p _ => ⟨[some (.d C), some (.d (.int z)), some (.loc u), some (.d (.int h)), x4, x5, some (.d (.list (two a b))), some (.d (.int (max a.1 b.1))), some (.d (.tuple [.int p.1, p.2]))], rfl, by
    have o : oIx (.d (.tuple [.int p.1, p.2])) (.d (.int 0)) S = .ok (.d (.int p.1)) S := rfl
    generalize max a.1 b.1 = mx at *
    simp [l2_raw_apart, o], by
    have o : oIx (.d (.tuple [.int p.1, p.2])) (.d (.int 1)) S = .ok (.d p.2) S := rfl
    simp [l1_raw_apart, o]⟩) (by simp)
  rw [hL] at lc
  have e1 : eLc false (iSeq (eVar 6)) (gN 8) l2_raw_apart l1_raw_apart [8] [some (.d C), some (.d (.int z)), some (.loc u), some (.d (.int h)), x4, x5, some (.d (.list (two a b))), some (.d (.int (max a.1 b.1))), none] S = .ok (.d (.list Lm)) S := by
    rw [ap_eLc, show iSeq (eVar 6) [some (.d C), some (.d (.int z)), some (.loc u), some (.d (.int h)), x4, x5, some (.d (.list (two a b))), some (.d (.int (max a.1 b.1))), none] S = .ok (two a b) S from rfl, bind_ok]
    rw [show two a b = [a, b].map fun p : Int × D => PyData.tuple [.int p.1, p.2] from rfl] at lc ⊢
    rw [show wipeE [some (.d C), some (.d (.int z)), some (.loc u), some (.d (.int h)), x4, x5, some (.d (.list ([a, b].map fun p : Int × D => PyData.tuple [.int p.1, p.2]))), some (.d (.int (max a.1 b.1))), none] [8] = [some (.d C), some (.d (.int z)), some (.loc u), some (.d (.int h)), x4, x5, some (.d (.list ([a, b].map fun p : Int × D => PyData.tuple [.int p.1, p.2]))), some (.d (.int (max a.1 b.1))), none] from rfl, lc, bind_ok]
    rfl
  have e2 : eCall fMin1 (aCons (eLc false (iSeq (eVar 6)) (gN 8) l2_raw_apart l1_raw_apart [8]) aNil) [some (.d C), some (.d (.int z)), some (.loc u), some (.d (.int h)), x4, x5, some (.d (.list (two a b))), some (.d (.int (max a.1 b.1))), none] S = .ok (.d m) S := by
    rw [ap_eCall, aC e1 aN, bind_ok, mn]
  have e3 : eTup (aCons (eVar 7) (aCons (eCall fMin1 (aCons (eLc false (iSeq (eVar 6)) (gN 8) l2_raw_apart l1_raw_apart [8]) aNil)) aNil)) [some (.d C), some (.d (.int z)), some (.loc u), some (.d (.int h)), x4, x5, some (.d (.list (two a b))), some (.d (.int (max a.1 b.1))), none] S = .ok (.d (.tuple [.int (max a.1 b.1), m])) S := by
    rw [ap_eTup, aC (f := eVar 7) rfl (aC e2 aN), bind_ok]
    rfl
  exact put_ok e3 rfl rfl hn hj
end
structure Tbl (L : Nat) (N : List Int) (h : Nat) (B : List Pr) : Prop where
  len : B.length = N.length + L + 1
  at_ : ∀ k, h ≤ k → (hk : k < B.length) → Bx L N k B[k].1 B[k].2
theorem Tbl.set {L : Nat} {N : List Int} {h : Nat} {B : List Pr} (t : Tbl L N (h + 1) B) {v : Int} {l : List Nat} (b : Bx L N h v l) : Tbl L N h (B.set h (v, l)) := by
  refine ⟨by simp [t.len], fun k hk hl => ?_⟩
  rw [List.getElem_set]
  by_cases e : h = k
  · subst e
    rw [if_pos rfl]
    exact b
  · rw [if_neg e]
    exact t.at_ k (by omega) (by simpa using hl)
theorem lot_len {L : Nat} {N : List Int} (hL : 1 ≤ L) : ∀ (l : List Nat) (lo : Nat), Ap L N.length lo l → lo + l.length ≤ max lo N.length := by
  intro l
  induction l with
  | nil => intro lo _; simp; omega
  | cons x xs ih =>
    intro lo p
    have := ih _ p.2.2
    have := p.1
    have := p.2.1
    simp
    omega
section
variable {N : List Int} {L : Nat} {z : Int} {S : Store} {x4 x5 x6 x7 : Option Vl}
theorem apart_step (hz : z = (L : Int)) (hL : 1 ≤ L) (hl : N.length ≤ 100) {h : Nat} (hh : h < N.length) {B : List Pr} (t : Tbl L N (h + 1) B) : ∃ B' y4 y5 y6 y7, Tbl L N h B' ∧ l3_raw_apart [some (.d (nD N)), some (.d (.int z)), some (.loc S.length), some (.d (.int (h : Nat))), x4, x5, x6, x7, none] (S ++ [.lst (B.map prD)]) = .nx [some (.d (nD N)), some (.d (.int z)), some (.loc S.length), some (.d (.int (h : Nat))), y4, y5, y6, y7, none] (S ++ [.lst (B'.map prD)]) := by
  have bl := t.len
  have k1 : h + 1 < B.length := by omega
  have k2 : h + L < B.length := by omega
  have a := t.at_ (h + 1) (by omega) k1
  have b := t.at_ (h + L) (by omega) k2
  obtain ⟨⟨av, al⟩, e1⟩ : ∃ q, B[h + 1] = q := ⟨_, rfl⟩
  obtain ⟨⟨bv, bl2⟩, e2⟩ : ∃ q, B[h + L] = q := ⟨_, rfl⟩
  rw [e1] at a
  rw [e2] at b
  simp only at a b
  have g1 : (S ++ [MO.lst (B.map prD)])[S.length]? = some (.lst (B.map prD)) := by simp
  have w1 : view (S ++ [MO.lst (B.map prD)]) (.loc S.length) = some (.list (B.map prD)) := by simp [view]
  have i1 : atI (B.map prD) ((h : Int) + 1) = some (prD (av, al)) := by
    rw [show ((h : Int) + 1) = ((h + 1 : Nat) : Int) by omega, atI_nat, List.getElem?_map, List.getElem?_eq_getElem k1, e1]
    rfl
  have i2 : atI (B.map prD) ((h : Int) + z) = some (.tuple [.int bv, .tuple (iD (cst bl2))]) := by
    rw [show ((h : Int) + z) = ((h + L : Nat) : Int) by omega, atI_nat, List.getElem?_map, List.getElem?_eq_getElem k2, e2]
    rfl
  have o1 := oIx_at w1 i1
  have o2 := oIx_at w1 i2
  have nh := at_iD hh
  have ll := lot_len hL bl2 (h + L) b.b.ap
  have st := bx_step hh a b
  have s1 := ap1 (C := nD N) (z := z) (h := (h : Int)) (u := S.length) (x4 := x4) (x5 := x5) (x6 := x6) (x7 := x7) o2
  have s2 := ap2 (z := z) (x6 := x6) (x7 := x7) (bv := bv) (Ls := iD (cst bl2)) o1 nh (by rw [iD_len]; simp [cst]; omega)
  rw [show ([prD (av, al), PyData.tuple [.int (atN N h + bv), .tuple (.int (h : Nat) :: iD (cst bl2))]] : List D) = two (av, rwD (cst al)) (atN N h + bv, rwD (cst (h :: bl2))) from rfl] at s2
  have s3 := ap3 (C := nD N) (z := z) (h := (h : Int)) (u := S.length) (S := S ++ [.lst (B.map prD)]) (x4 := some (.d (.int bv))) (x5 := some (.d (.tuple (iD (cst bl2))))) (x7 := x7) (av, rwD (cst al)) (atN N h + bv, rwD (cst (h :: bl2)))
  have fin : ∀ (v : Int) (l : List Nat) (Lm : List D), Bx L N h v l → max av (atN N h + bv) = v → ([((av, rwD (cst al)) : Int × D), (atN N h + bv, rwD (cst (h :: bl2)))].filter fun p => decide (p.1 = max av (atN N h + bv))).map (fun p => p.2) = Lm → fMin1 [.d (.list Lm)] (S ++ [.lst (B.map prD)]) = .ok (.d (rwD (cst l))) (S ++ [.lst (B.map prD)]) → ∃ B' y4 y5 y6 y7, Tbl L N h B' ∧ l3_raw_apart [some (.d (nD N)), some (.d (.int z)), some (.loc S.length), some (.d (.int (h : Nat))), x4, x5, x6, x7, none] (S ++ [.lst (B.map prD)]) = .nx [some (.d (nD N)), some (.d (.int z)), some (.loc S.length), some (.d (.int (h : Nat))), y4, y5, y6, y7, none] (S ++ [.lst (B'.map prD)]) := by
    intro v l Lm bs hv hf mn
    have s4 := ap4 (C := nD N) (z := z) (h := (h : Int)) (u := S.length) (x4 := some (.d (.int bv))) (x5 := some (.d (.tuple (iD (cst bl2))))) (av, rwD (cst al)) (atN N h + bv, rwD (cst (h :: bl2))) hf mn g1 (ixN_ok (n := (B.map prD).length) (i := h) (by rw [List.length_map]; omega))
    refine ⟨B.set h (v, l), some (.d (.int bv)), some (.d (.tuple (iD (cst bl2)))), some (.d (.list (two (av, rwD (cst al)) (atN N h + bv, rwD (cst (h :: bl2)))))), some (.d (.int (max av (atN N h + bv)))), t.set bs, ?_⟩
    rw [l3_raw_apart, ap_sCons, s1, seq_nx, ap_sCons, s2, seq_nx, ap_sCons, s3, seq_nx, s4]
    congr 1
    rw [List.map_set]
    rw [hv]
    simp [prD]
  by_cases lt : av < atN N h + bv
  · have bs := st.2.1 (by omega)
    refine fin (atN N h + bv) (h :: bl2) [rwD (cst (h :: bl2))] bs (by omega) ?_ (rows_min1 _ _)
    rw [show max av (atN N h + bv) = atN N h + bv by omega]
    have ne : ¬ av = atN N h + bv := by omega
    simp [ne]
  · by_cases gt : atN N h + bv < av
    · have bs := st.1 (by omega)
      refine fin av al [rwD (cst al)] bs (by omega) ?_ (rows_min1 _ _)
      rw [show max av (atN N h + bv) = av by omega]
      have ne : ¬ atN N h + bv = av := by omega
      simp [ne]
    · have eq : av = atN N h + bv := by omega
      have ft : ([((av, rwD (cst al)) : Int × D), (atN N h + bv, rwD (cst (h :: bl2)))].filter fun p => decide (p.1 = max av (atN N h + bv))).map (fun p => p.2) = [rwD (cst al), rwD (cst (h :: bl2))] := by
        rw [show max av (atN N h + bv) = av by omega]
        simp [← eq]
      have mn := rows_min2 (cst al) (cst (h :: bl2)) (S ++ [.lst (B.map prD)])
      by_cases q : ltL (cst (h :: bl2)) (cst al) = true
      · rw [if_pos q] at mn
        refine fin av (h :: bl2) _ (st.2.2 (by omega) (h :: bl2) (.inr rfl) ?_ (ltL_irr _)) (by omega) ft mn
        cases t : ltL (cst al) (cst (h :: bl2)) with
        | false => rfl
        | true =>
          have := ltL_trans _ _ _ t q
          rw [ltL_irr] at this
          cases this
      · rw [if_neg q] at mn
        exact fin av al _ (st.2.2 (by omega) al (.inl rfl) (ltL_irr _) (by simpa using q)) (by omega) ft mn
def downD : Nat → List D
  | 0 => []
  | k + 1 => .int (k : Nat) :: downD k
theorem apart_loop (hz : z = (L : Int)) (hL : 1 ≤ L) (hl : N.length ≤ 100) : ∀ (k : Nat) (B : List Pr) (x3 x4 x5 x6 x7 : Option Vl), k ≤ N.length → Tbl L N k B → ∃ B' y3 y4 y5 y6 y7, Tbl L N 0 B' ∧ forL (gN 3) l3_raw_apart (downD k) [some (.d (nD N)), some (.d (.int z)), some (.loc S.length), x3, x4, x5, x6, x7, none] (S ++ [.lst (B.map prD)]) = .nx [some (.d (nD N)), some (.d (.int z)), some (.loc S.length), y3, y4, y5, y6, y7, none] (S ++ [.lst (B'.map prD)]) := by
  intro k
  induction k with
  | zero => exact fun B x3 x4 x5 x6 x7 _ t => ⟨B, x3, x4, x5, x6, x7, t, rfl⟩
  | succ k ih =>
    intro B x3 x4 x5 x6 x7 hk t
    obtain ⟨B1, y4, y5, y6, y7, t1, e1⟩ := apart_step (S := S) (x4 := x4) (x5 := x5) (x6 := x6) (x7 := x7) hz hL hl (show k < N.length by omega) t
    obtain ⟨B2, z3, z4, z5, z6, z7, t2, e2⟩ := ih B1 (some (.d (.int (k : Nat)))) y4 y5 y6 y7 (by omega) t1
    refine ⟨B2, z3, z4, z5, z6, z7, t2, ?_⟩
    rw [downD, ap_forL1, ap_gN]
    simp only [List.set_cons_succ, List.set_cons_zero]
    rw [e1]
    exact e2
end
set_option exponentiation.threshold 5000
theorem downD_get : ∀ (n i : Nat), i < n → (downD n)[i]? = some (.int ((n : Int) - 1 - (i : Int))) := by
  intro n
  induction n with
  | zero => intro i h; omega
  | succ n ih =>
    intro i h
    cases i with
    | zero => simp [downD]
    | succ i =>
      rw [downD, List.getElem?_cons_succ, ih i (by omega)]
      congr 2
      omega
theorem downD_len : ∀ n, (downD n).length = n
  | 0 => rfl
  | n + 1 => by rw [downD, List.length_cons, downD_len n]
theorem range_down (n : Nat) : rangeC ((n : Int) - 1) (-1) n = downD n := by
  apply List.ext_getElem?
  intro i
  by_cases h : i < n
  · rw [downD_get n i h]
    simp [rangeC, h]
    omega
  · rw [List.getElem?_eq_none (by rw [rangeC_len]; omega), List.getElem?_eq_none (by rw [downD_len]; omega)]
theorem down_step : ∀ n : Nat, n ≤ 24 → stepOk ((n : Int) - 1) (-1) (-1) = true ∧ (Builtin.Range.rangeSize ((n : Int) - 1) (-1) (-1)).toNat = n := by
  intro n h
  have : ∀ k, k < 25 → stepOk ((k : Nat) - 1 : Int) (-1) (-1) = true ∧ (Builtin.Range.rangeSize ((k : Nat) - 1 : Int) (-1) (-1)).toNat = k := by decide +kernel
  exact this n (by omega)
section
variable {N : List Int} {L : Nat} {z : Int} {S : Store}
theorem mul_tab {k : Nat} (hk : k ≤ 100) : oMul true (.d (.list [prD (0, [])])) (.d (.int (k : Int))) S = .ok (.loc S.length) (S ++ [.lst ((List.replicate k ((0, []) : Pr)).map prD)]) := by
  have h1 : -(2 ^ 63) ≤ (k : Int) ∧ (k : Int) < 2 ^ 63 ∧ [prD (0, [])].length * (k : Int).toNat ≤ sizeLine := ⟨by omega, by omega, line1000 (by simp; omega)⟩
  simp only [oMul, view_d, if_pos h1]
  rw [show (List.replicate (k : Int).toNat [prD (0, [])]).flatten = (List.replicate k ((0, []) : Pr)).map prD by
    rw [Int.toNat_natCast, List.map_replicate]
    generalize k = q
    induction q with
    | zero => rfl
    | succ q ih => rw [List.replicate_succ, List.flatten_cons, ih, List.replicate_succ]; rfl]
  rfl
theorem ra0_core {C : D} {nl k : Int} {Z : List D} (ln : fLen [.d C] S = .ok (.d (.int nl)) S) (hk : nl + z + 1 = k) (mu : oMul true (.d (.list [prD (0, [])])) (.d (.int k)) S = .ok (.loc S.length) (S ++ [.lst Z])) : sSet 2 (eBin (oMul true) (eLst false (aCons (eTup (aCons (eD (.int 0)) (aCons (eTup aNil) aNil))) aNil)) (eBin (oAdd false) (eBin (oAdd false) (eCall fLen (aCons (eVar 0) aNil)) (eVar 1)) (eD (.int 1)))) [some (.d C), some (.d (.int z)), none, none, none, none, none, none, none] S = .nx [some (.d C), some (.d (.int z)), some (.loc S.length), none, none, none, none, none, none] (S ++ [.lst Z]) := by
  have e : eCall fLen (aCons (eVar 0) aNil) [some (.d C), some (.d (.int z)), none, none, none, none, none, none, none] S = .ok (.d (.int nl)) S := by rw [ap_eCall, aC (f := eVar 0) rfl aN, bind_ok, ln]
  have e2 : eLst false (aCons (eTup (aCons (eD (.int 0)) (aCons (eTup aNil) aNil))) aNil) [some (.d C), some (.d (.int z)), none, none, none, none, none, none, none] S = .ok (.d (.list [prD (0, [])])) S := rfl
  have e3 : eBin (oAdd false) (eBin (oAdd false) (eCall fLen (aCons (eVar 0) aNil)) (eVar 1)) (eD (.int 1)) [some (.d C), some (.d (.int z)), none, none, none, none, none, none, none] S = .ok (.d (.int k)) S := by
    rw [ap_eBin, ap_eBin, e, bind_ok]
    simp [hk]
  rw [ap_sSet, ap_eBin, e2, bind_ok, e3, bind_ok, mu]
  rfl
theorem ra1_core {C : D} {nl j : Int} {X : List D} {b : Option Vl} {S1 : Store} (ln : fLen [.d C] S1 = .ok (.d (.int nl)) S1) (hj : nl - 1 = j) (so : stepOk j (-1) (-1) = true) (hX : rangeC j (-1) (Builtin.Range.rangeSize j (-1) (-1)).toNat = X) : iRangeC (aCons (eBin oSub (eCall fLen (aCons (eVar 0) aNil)) (eD (.int 1))) (aCons (eUn oNeg (eD (.int 1))) (aCons (eUn oNeg (eD (.int 1))) aNil))) [some (.d C), some (.d (.int z)), b, none, none, none, none, none, none] S1 = .ok X S1 := by
  have e : eCall fLen (aCons (eVar 0) aNil) [some (.d C), some (.d (.int z)), b, none, none, none, none, none, none] S1 = .ok (.d (.int nl)) S1 := by rw [ap_eCall, aC (f := eVar 0) rfl aN, bind_ok, ln]
  have e1 : eBin oSub (eCall fLen (aCons (eVar 0) aNil)) (eD (.int 1)) [some (.d C), some (.d (.int z)), b, none, none, none, none, none, none] S1 = .ok (.d (.int j)) S1 := by
    rw [ap_eBin, e, bind_ok]
    simp [hj]
  have e2 : eUn oNeg (eD (.int 1)) [some (.d C), some (.d (.int z)), b, none, none, none, none, none, none] S1 = .ok (.d (.int (-1))) S1 := by simp
  unfold iRangeC
  rw [aC e1 (aC e2 (aC e2 aN)), bind_ok]
  simp only [view_d]
  rw [if_pos so, hX]
theorem raw_apart_ok (hz : z = (L : Int)) (hL : 1 ≤ L) (hL2 : L ≤ 24) (h : OkN N) (S : Store) : ∃ (v : Int) (l : List Nat), Bx L N 0 v l ∧ g_raw_apart [.d (nD N), .d (.int z)] S = .ok (.d (rwD (cst l))) S := by
  have l1 := h.l1
  have l2 := h.l2
  have t0 : Tbl L N N.length (List.replicate (N.length + L + 1) ((0, []) : Pr)) := ⟨by simp, fun k hk hl => by rw [List.getElem_replicate]; exact bx_end hk⟩
  have s0 := ra0_core (C := nD N) (z := z) (k := ((N.length + L + 1 : Nat) : Int)) (Seen.ln (v := .d (nD N)) (S := S) (F := N) (.inr rfl)) (by omega) (mul_tab (k := N.length + L + 1) (by omega))
  have ds := down_step N.length (by omega)
  have it := ra1_core (C := nD N) (z := z) (b := some (.loc S.length)) (S1 := S ++ [.lst ((List.replicate (N.length + L + 1) ((0, []) : Pr)).map prD)]) (Seen.ln (v := .d (nD N)) (F := N) (.inr rfl)) rfl ds.1 (X := downD N.length) (by rw [ds.2]; exact range_down N.length)
  obtain ⟨B, y3, y4, y5, y6, y7, t, fl⟩ := apart_loop (S := S) (z := z) hz hL (show N.length ≤ 100 by omega) N.length _ none none none none none (Nat.le_refl _) t0
  have k0 : 0 < B.length := by have := t.len; omega
  refine ⟨B[0].1, B[0].2, t.at_ 0 (Nat.le_refl _) k0, ?_⟩
  have w1 : view (S ++ [MO.lst (B.map prD)]) (.loc S.length) = some (.list (B.map prD)) := by simp [view]
  have i0 : atI (B.map prD) (0 : Int) = some (prD B[0]) := by
    rw [show (0 : Int) = ((0 : Nat) : Int) from rfl, atI_nat, List.getElem?_map, List.getElem?_eq_getElem k0]
    rfl
  have o := oIx_at w1 i0
  have key : b_raw_apart [some (.d (nD N)), some (.d (.int z)), none, none, none, none, none, none, none] S = .ret (.d (rwD (cst B[0].2))) (S ++ [.lst (B.map prD)]) := by
    rw [b_raw_apart, ap_sCons, s0, seq_nx, ap_sCons, ap_sFor, it, st_ok, fl, seq_nx]
    have e : eBin oIx (eVar 2) (eD (.int 0)) [some (.d (nD N)), some (.d (.int z)), some (.loc S.length), y3, y4, y5, y6, y7, none] (S ++ [.lst (B.map prD)]) = .ok (.d (prD B[0])) (S ++ [.lst (B.map prD)]) := by
      rw [ap_eBin, show eVar 2 [some (.d (nD N)), some (.d (.int z)), some (.loc S.length), y3, y4, y5, y6, y7, none] (S ++ [.lst (B.map prD)]) = .ok (.loc S.length) (S ++ [.lst (B.map prD)]) from rfl, bind_ok, ap_eD, bind_ok, o]
    rw [ap_sRet, ap_eBin, e, bind_ok]
    rfl
  rw [g_raw_apart]
  have := fn_ret (n := 9) (sb := b_raw_apart) (vs := [.d (nD N), .d (.int z)]) key
  rw [this]
  simp
theorem ha_core {C d : D} (hb : g_check_both [.d C, .d (.int z)] S = .ok (.d .none) S) (r : g_raw_apart [.d C, .d (.int z)] S = .ok (.d d) S) : g_hours_apart [.d C, .d (.int z)] S = .ok (.d d) S := by
  simp [g_hours_apart, ap_fnOf, b_hours_apart, List.replicate, hb, r, leave]
theorem apart_ok (hz : z = (L : Int)) (hL : 1 ≤ L) (hL2 : L ≤ 24) (h : OkN N) (S : Store) : ∃ (v : Int) (l : List Nat), Bx L N 0 v l ∧ g_hours_apart [.d (nD N), .d (.int z)] S = .ok (.d (rwD (cst l))) S := by
  obtain ⟨v, l, b, e⟩ := raw_apart_ok hz hL hL2 h S
  exact ⟨v, l, b, ha_core (h.both (by omega) S) e⟩
theorem ls_core2 {C d : D} (hb : g_check_both [.d C, .d (.int z)] S = .ok (.d .none) S) (r : g_raw_starts [.d C, .d (.int z)] S = .ok (.d d) S) : g_least_starts [.d C, .d (.int z)] S = .ok (.d d) S := by
  simp [g_least_starts, ap_fnOf, b_least_starts, List.replicate, hb, r, leave]
theorem least_ok (hz : z = (L : Int)) (hL : 1 ≤ L) (hL2 : L ≤ 24) (h : OkN N) (S : Store) : g_least_starts [.d (nD N), .d (.int z)] S = .ok (.d (rwD (gr L N))) S :=
  ls_core2 (h.both (by omega) S) (raw_starts_ok hz hL (by have := h.l2; omega) S)
end
set_option exponentiation.threshold 5000
theorem atI_last {α : Type} {xs : List α} {x : α} (h : xs.getLast? = some x) : atI xs (-1) = some x := by
  obtain ⟨Y, rfl⟩ := List.getLast?_eq_some_iff.mp h
  have c : -(((Y ++ [x]).length : Nat) : Int) ≤ -1 := by simp only [List.length_append, List.length_cons, List.length_nil]; omega
  unfold atI ixN
  rw [if_neg (by omega), if_pos c]
  have e : ((-1 : Int) + ((Y ++ [x]).length : Nat)).toNat = Y.length := by simp only [List.length_append, List.length_cons, List.length_nil]; omega
  simp only [Option.bind_some, e]
  simp
theorem add_tup {xs ys : List D} {S : Store} (h : xs.length + ys.length ≤ 900) : oAdd false (.d (.tuple xs)) (.d (.tuple ys)) S = .ok (.d (.tuple (xs ++ ys))) S := by
  have sz : xs.length + ys.length ≤ sizeLine := line1000 (by omega)
  simp [oAdd, sz]
theorem add_lists {xs ys : List D} {S : Store} (h : xs.length + ys.length ≤ 16000000) : oAdd false (.d (.list xs)) (.d (.list ys)) S = .ok (.d (.list (xs ++ ys))) S := by
  have sz : xs.length + ys.length ≤ sizeLine := line16 h
  simp [oAdd, sz]
def lotD (l : List Nat) : D := rwD (cst l)
theorem lot_lenG {L hi : Nat} (hL : 1 ≤ L) : ∀ (l : List Nat) (lo : Nat), Ap L hi lo l → lo + l.length ≤ max lo hi := by
  intro l
  induction l with
  | nil => intro lo _; simp; omega
  | cons x xs ih =>
    intro lo p
    have := ih _ p.2.2
    have := p.1
    have := p.2.1
    simp
    omega
section
variable {z : Int} {L : Nat} {S : Store} {x0 x2 : Option Vl}
theorem lt_core {h x : Int} {l : List D} (hl : l.length ≤ 900) (ne : (l.length : Int) ≠ 0) (la : atI l (-1) = some (.int x)) : l1__law_lots_apart [x0, some (.d (.int z)), x2, some (.d (.int h)), some (.d (.tuple l))] S = .ok (decide (z ≤ h - x)) S := by
  have o : oIx (.d (.tuple l)) (.d (.int (-1))) S = .ok (.d (.int x)) S := by simp [oIx, view, la, oPost]
  have ne2 : ¬ l = [] := by intro e; subst e; simp at ne
  generalize el : (l.length : Int) = n at *
  simp [l1__law_lots_apart, el, ne, la, oPost, ne2]
theorem lt_nil {h : Int} : l1__law_lots_apart [x0, some (.d (.int z)), x2, some (.d (.int h)), some (.d (.tuple []))] S = .ok true S := by
  simp [l1__law_lots_apart]
theorem lt_ok (hz : z = (L : Int)) {h : Nat} {l : List Nat} (hl : l.length ≤ 900) : l1__law_lots_apart [x0, some (.d (.int z)), x2, some (.d (.int (h : Nat))), some (.d (lotD l))] S = .ok (apOk L h l) S := by
  unfold lotD rwD
  cases e : l.getLast? with
  | none =>
    have : l = [] := List.getLast?_eq_none_iff.mp e
    subst this
    exact lt_nil
  | some x =>
    have ne : l ≠ [] := by intro q; subst q; cases e
    have hp : 0 < l.length := List.length_pos_iff.mpr ne
    have la : atI (iD (cst l)) (-1) = some (.int (x : Nat)) := atI_last (by unfold iD cst; rw [List.getLast?_map, List.getLast?_map, e]; rfl)
    rw [lt_core (by rw [iD_len]; simpa [cst] using hl) (by rw [iD_len]; simp [cst]; omega) la]
    unfold apOk
    rw [e, hz]
theorem le_core {h : Int} {l : List D} (hl : l.length ≤ 800) : l0__law_lots_apart [x0, some (.d (.int z)), x2, some (.d (.int h)), some (.d (.tuple l))] S = .ok (.d (.tuple (l ++ [.int h]))) S := by
  have t : eTup (aCons (eVar 3) aNil) [x0, some (.d (.int z)), x2, some (.d (.int h)), some (.d (.tuple l))] S = .ok (.d (.tuple [.int h])) S := rfl
  rw [l0__law_lots_apart, ap_eBin, show eVar 4 [x0, some (.d (.int z)), x2, some (.d (.int h)), some (.d (.tuple l))] S = .ok (.d (.tuple l)) S from rfl, bind_ok, t, bind_ok, add_tup (by simp; omega)]
theorem lot_snoc (l : List Nat) (h : Nat) : PyData.tuple (iD (cst l) ++ [.int (h : Nat)]) = lotD (l ++ [h]) := by
  unfold lotD rwD iD cst
  simp
theorem lots_step (hz : z = (L : Int)) (hL : 1 ≤ L) {h : Nat} (hh : h < 10) {x4 : Option Vl} : l2__law_lots_apart [x0, some (.d (.int z)), some (.d (.list ((lotsF L h).map lotD))), some (.d (.int (h : Nat))), none] S = .nx [x0, some (.d (.int z)), some (.d (.list ((lotsF L (h + 1)).map lotD))), some (.d (.int (h : Nat))), none] S := by
  have ll : ∀ l ∈ lotsF L h, l.length ≤ 800 := fun l hl => by
    rw [lots_mem hL] at hl
    have := lot_lenG hL l 0 hl
    omega
  have p2 : 2 ^ h ≤ 2 ^ 10 := Nat.pow_le_pow_right (by omega) (by omega)
  have n2 := lots_len (L := L) h
  have f2 := List.length_filter_le (apOk L h) (lotsF L h)
  have lc := lcB_fm (tg := gN 4) (t := l1__law_lots_apart) (f := l0__law_lots_apart) (ρ := [x0, some (.d (.int z)), some (.d (.list ((lotsF L h).map lotD))), some (.d (.int (h : Nat))), none]) (S := S) lotD (apOk L h) (fun l => lotD (l ++ [h])) (lotsF L h) (fun l hl => ⟨_, rfl, lt_ok hz (by have := ll l hl; omega), by
    show l0__law_lots_apart [x0, some (.d (.int z)), some (.d (.list ((lotsF L h).map lotD))), some (.d (.int (h : Nat))), some (.d (.tuple (iD (cst l))))] S = _
    rw [le_core (by rw [iD_len]; simp [cst]; exact ll l hl), lot_snoc]⟩) (by omega)
  have e1 : eLc false (iSeq (eVar 2)) (gN 4) l1__law_lots_apart l0__law_lots_apart [4] [x0, some (.d (.int z)), some (.d (.list ((lotsF L h).map lotD))), some (.d (.int (h : Nat))), none] S = .ok (.d (.list (((lotsF L h).filter (apOk L h)).map fun l => lotD (l ++ [h])))) S := by
    rw [ap_eLc, show iSeq (eVar 2) [x0, some (.d (.int z)), some (.d (.list ((lotsF L h).map lotD))), some (.d (.int (h : Nat))), none] S = .ok ((lotsF L h).map lotD) S from rfl, bind_ok]
    rw [show wipeE [x0, some (.d (.int z)), some (.d (.list ((lotsF L h).map lotD))), some (.d (.int (h : Nat))), none] [4] = [x0, some (.d (.int z)), some (.d (.list ((lotsF L h).map lotD))), some (.d (.int (h : Nat))), none] from rfl, lc, bind_ok]
    rfl
  rw [l2__law_lots_apart, ap_sSet, ap_eBin, show eVar 2 [x0, some (.d (.int z)), some (.d (.list ((lotsF L h).map lotD))), some (.d (.int (h : Nat))), none] S = .ok (.d (.list ((lotsF L h).map lotD))) S from rfl, bind_ok, e1, bind_ok, add_lists (by simp; omega), lotsF]
  simp
theorem lots_loop (hz : z = (L : Int)) (hL : 1 ≤ L) : ∀ (n h : Nat) (x3 : Option Vl), h + n ≤ 10 → ∃ y3, forL (gN 3) l2__law_lots_apart (iD ((List.range' h n).map fun (i : Nat) => (i : Int))) [x0, some (.d (.int z)), some (.d (.list ((lotsF L h).map lotD))), x3, none] S = .nx [x0, some (.d (.int z)), some (.d (.list ((lotsF L (h + n)).map lotD))), y3, none] S := by
  intro n
  induction n with
  | zero => exact fun h x3 _ => ⟨x3, rfl⟩
  | succ n ih =>
    intro h x3 hb
    obtain ⟨y3, e⟩ := ih (h + 1) (some (.d (.int (h : Nat)))) (by omega)
    refine ⟨y3, ?_⟩
    have st := lots_step (S := S) (x0 := x0) (x4 := none) hz hL (show h < 10 by omega)
    rw [List.range'_succ, show iD ((h :: List.range' (h + 1) n).map fun (t : Nat) => (t : Int)) = .int (h : Nat) :: iD ((List.range' (h + 1) n).map fun (t : Nat) => (t : Int)) from rfl, ap_forL1, ap_gN]
    simp only [List.set_cons_succ, List.set_cons_zero]
    rw [st]
    rw [show h + 1 + n = h + (n + 1) by omega] at e
    exact e
theorem lots_ok (hz : z = (L : Int)) (hL : 1 ≤ L) {n : Nat} (hn : n ≤ 10) : g__law_lots_apart [.d (.int (n : Nat)), .d (.int z)] S = .ok (.d (.list ((lotsF L n).map lotD))) S := by
  obtain ⟨y3, fl⟩ := lots_loop (S := S) (x0 := some (.d (.int (n : Nat)))) hz hL n 0 none (by omega)
  rw [Nat.zero_add] at fl
  have s0 : sSet 2 (eLst false (aCons (eTup aNil) aNil)) [some (.d (.int (n : Nat))), some (.d (.int z)), none, none, none] S = .nx [some (.d (.int (n : Nat))), some (.d (.int z)), some (.d (.list ((lotsF L 0).map lotD))), none, none] S := rfl
  have it : iRange (aCons (eVar 0) aNil) [some (.d (.int (n : Nat))), some (.d (.int z)), some (.d (.list ((lotsF L 0).map lotD))), none, none] S = .ok (iD ((List.range' 0 n).map fun (i : Nat) => (i : Int))) S := by
    rw [iRange_1 (S1 := S) (j := (n : Int)) (aC (f := eVar 0) rfl aN) (by omega) (by omega), rangeD_iD (n := n) rfl, List.range_eq_range']
    unfold iD
    rw [List.map_map]
    rfl
  have key : b__law_lots_apart [some (.d (.int (n : Nat))), some (.d (.int z)), none, none, none] S = .ret (.d (.list ((lotsF L n).map lotD))) S := by
    rw [b__law_lots_apart, ap_sCons, s0, seq_nx, ap_sCons, ap_sFor, it, st_ok, fl, seq_nx]
    rfl
  rw [g__law_lots_apart]
  have := fn_ret (n := 5) (sb := b__law_lots_apart) (vs := [.d (.int (n : Nat)), .d (.int z)]) key
  rw [this]
  simp
end
def gapB (z : Int) (f : List Int) : Bool := (List.zip f f.tail).all fun p => decide (z ≤ p.2 - p.1)
def risB (f : List Int) : Bool := (List.zip f f.tail).all fun p => decide (p.1 < p.2)
theorem gap_ris {z : Int} (hz : 1 ≤ z) (f : List Int) : (risB f && gapB z f) = gapB z f := by
  cases q : gapB z f with
  | false => simp
  | true =>
    have : risB f = true := by
      unfold risB
      unfold gapB at q
      rw [List.all_eq_true] at q ⊢
      intro p hp
      have := q p hp
      simp only [decide_eq_true_eq] at *
      omega
    rw [this]
    rfl
theorem gap_ix {z : Int} : ∀ (f : List Int), ((List.range (f.length - 1)).all fun i => decide (z ≤ atN f (i + 1) - atN f i)) = gapB z f := by
  intro f
  unfold gapB
  rw [Bool.eq_iff_iff, List.all_eq_true, List.all_eq_true]
  constructor
  · intro h p hp
    obtain ⟨i, hi⟩ := List.mem_iff_getElem?.mp hp
    rw [List.getElem?_zip_eq_some] at hi
    obtain ⟨i1, e1⟩ := List.getElem?_eq_some_iff.mp hi.1
    have e2 := hi.2
    rw [List.getElem?_tail] at e2
    obtain ⟨i2, e2⟩ := List.getElem?_eq_some_iff.mp e2
    have := h i (List.mem_range.mpr (by omega))
    rw [atN_lt i1, atN_lt i2, e1, e2] at this
    exact this
  · intro h i hi
    have hi := List.mem_range.mp hi
    have m : (atN f i, atN f (i + 1)) ∈ List.zip f f.tail := by
      rw [List.mem_iff_getElem?]
      refine ⟨i, ?_⟩
      rw [List.getElem?_zip_eq_some, List.getElem?_tail, atN_lt (by omega : i < f.length), atN_lt (by omega : i + 1 < f.length)]
      exact ⟨List.getElem?_eq_getElem (by omega), List.getElem?_eq_getElem (by omega)⟩
    exact h _ m
def apB (n : Nat) (z : Int) : D → Bool
  | .tuple ds => ds.all (inI 0 ((n : Int) - 1)) && gapB z (intsD ds)
  | _ => false
theorem cut1 (f : List Int) : cutD (iD f) (some 1) none = iD f.tail := by
  rw [cut_tail]
  unfold iD
  rw [List.map_tail]
section
variable {N : List Int} {z : Int} {L : Nat} {S : Store}
theorem zt_ev {ρ : Env} {f : List Int} {i : Nat} (h : eVar i ρ S = .ok (.d (.tuple (iD f))) S) : iZipX (aCons (eVar i) (aCons (eSl false (eVar i) (pAt (eD (.int 1))) pNo) aNil)) ρ S = .ok ((List.zip f f.tail).map fun p => .tuple [.int p.1, .int p.2]) S := by
  have s : eSl false (eVar i) (pAt (eD (.int 1))) pNo ρ S = .ok (.d (.tuple (iD f.tail))) S := by
    rw [ap_eSl, h, bind_ok, show pAt (eD (.int 1)) ρ S = .ok (some 1) S from rfl, bind_ok, show pNo ρ S = .ok none S from rfl, bind_ok]
    simp [slV, cut1]
  rw [zip_tt h s, zip_iD]
theorem pair_lc {ev : Ev} {ρ : Env} {i j : Nat} {p : Int × Int → Bool} {f : List Int} (hf : ∀ q : Int × Int, ∃ ρ1, gT [gN i, gN j] (.d (.tuple [.int q.1, .int q.2])) ρ = some ρ1 ∧ ev ρ1 S = .ok (.d (.bool (p q))) S) (hl : f.length ≤ 900) : lcL (gT [gN i, gN j]) tYesD ev ρ ((List.zip f f.tail).map fun p => .tuple [.int p.1, .int p.2]) [] S = .ok (((List.zip f f.tail).map p).map PyData.bool) S := by
  have lc := lcL_map (tg := gT [gN i, gN j]) (f := ev) (ρ := ρ) (S := S) (fun q : Int × Int => .tuple [.int q.1, .int q.2]) (fun q => .bool (p q)) (List.zip f f.tail) (fun q _ => hf q) (by simp; omega)
  rw [List.map_map]
  exact lc
theorem all_map {p : Int × Int → Bool} {xs : List (Int × Int)} : fAll [.d (.list ((xs.map p).map PyData.bool))] S = .ok (.d (.bool (xs.all p))) S := by
  have al := all_bools (xs.map p) S
  rw [List.all_map] at al
  exact al
theorem lot_ok {f : List Int} {n : Int} (hl : f.length ≤ 900) (ar : g_are_within [.d (.tuple (iD f)), .d (.int 0), .d (.int (n - 1))] S = .ok (.d (.bool true)) S) : g_is_lot [.d (.tuple (iD f)), .d (.int n)] S = .ok (.d (.bool (risB f))) S := by
  have it := zt_ev (S := S) (ρ := [some (.d (.tuple (iD f))), some (.d (.int n)), none, none]) (i := 0) rfl
  have lc := pair_lc (S := S) (ev := l0_is_lot) (ρ := [some (.d (.tuple (iD f))), some (.d (.int n)), none, none]) (i := 2) (j := 3) (p := fun p => decide (p.1 < p.2)) (fun q => ⟨_, rfl, by simp [l0_is_lot]⟩) hl
  have al := all_map (S := S) (p := fun p => decide (p.1 < p.2)) (xs := List.zip f f.tail)
  generalize (List.zip f f.tail).map (fun p => PyData.tuple [.int p.1, .int p.2]) = Z at *
  generalize ((List.zip f f.tail).map fun p => decide (p.1 < p.2)).map PyData.bool = B at *
  have key : b_is_lot [some (.d (.tuple (iD f))), some (.d (.int n)), none, none] S = .ret (.d (.bool (risB f))) S := by
    rw [b_is_lot, ap_sCons]
    conv => lhs; arg 1; simp [ar]
    rw [seq_nx, ap_sRet, ap_eCall, ap_aCons, ap_eLc, it, bind_ok]
    simp [wipeE, lc, al]
    rfl
  rw [g_is_lot]
  have := fn_ret (n := 4) (sb := b_is_lot) (vs := [.d (.tuple (iD f)), .d (.int n)]) key
  rw [this]
  simp
theorem lot_no {d : D} {n : Int} (ar : g_are_within [.d d, .d (.int 0), .d (.int (n - 1))] S = .ok (.d (.bool false)) S) : g_is_lot [.d d, .d (.int n)] S = .ok (.d (.bool false)) S := by
  simp [g_is_lot, ap_fnOf, b_is_lot, List.replicate, ar, leave]
theorem ha_no {C d : D} {n : Int} (hb : g_check_both [.d C, .d (.int z)] S = .ok (.d .none) S) (hn : fLen [.d C] S = .ok (.d (.int n)) S) (lo : g_is_lot [.d d, .d (.int n)] S = .ok (.d (.bool false)) S) : g_is_hours_apart [.d C, .d (.int z), .d d] S = .ok (.d (.bool false)) S := by
  simp [g_is_hours_apart, ap_fnOf, b_is_hours_apart, List.replicate, hb, hn, lo, leave]
theorem ha_yes {C : D} {n : Int} {f : List Int} (hl : f.length ≤ 900) (hb : g_check_both [.d C, .d (.int z)] S = .ok (.d .none) S) (hn : fLen [.d C] S = .ok (.d (.int n)) S) (lo : g_is_lot [.d (.tuple (iD f)), .d (.int n)] S = .ok (.d (.bool true)) S) : g_is_hours_apart [.d C, .d (.int z), .d (.tuple (iD f))] S = .ok (.d (.bool (gapB z f))) S := by
  have it := zt_ev (S := S) (ρ := [some (.d C), some (.d (.int z)), some (.d (.tuple (iD f))), none, none]) (i := 2) rfl
  have lc := pair_lc (S := S) (ev := l0_is_hours_apart) (ρ := [some (.d C), some (.d (.int z)), some (.d (.tuple (iD f))), none, none]) (i := 3) (j := 4) (p := fun p => decide (z ≤ p.2 - p.1)) (fun q => ⟨_, rfl, by simp [l0_is_hours_apart]⟩) hl
  have al := all_map (S := S) (p := fun p => decide (z ≤ p.2 - p.1)) (xs := List.zip f f.tail)
  generalize (List.zip f f.tail).map (fun p => PyData.tuple [.int p.1, .int p.2]) = Z at *
  generalize ((List.zip f f.tail).map fun p => decide (z ≤ p.2 - p.1)).map PyData.bool = B at *
  have key : b_is_hours_apart [some (.d C), some (.d (.int z)), some (.d (.tuple (iD f))), none, none] S = .ret (.d (.bool (gapB z f))) S := by
    rw [b_is_hours_apart, ap_sCons]
    conv => lhs; arg 1; simp [hb]
    rw [seq_nx, ap_sCons]
    conv => lhs; arg 1; simp [hn, lo]
    rw [seq_nx, ap_sRet, ap_eCall, ap_aCons, ap_eLc, it, bind_ok]
    simp [wipeE, lc, al]
    rfl
  rw [g_is_hours_apart]
  have := fn_ret (n := 5) (sb := b_is_hours_apart) (vs := [.d C, .d (.int z), .d (.tuple (iD f))]) key
  rw [this]
  simp
theorem aflag_ok (hz : z = (L : Int)) (hL : 1 ≤ L ∧ L ≤ 24) (h : OkN N) (d : D) (hd : ∀ ds, d = .tuple ds → ds.length ≤ 900) (S : Store) : g_is_hours_apart [.d (nD N), .d (.int z), .d d] S = .ok (.d (.bool (apB N.length z d))) S := by
  have hb := h.both (L := z) (by omega) S
  have hn := Seen.ln (v := .d (nD N)) (S := S) (F := N) (.inr rfl)
  have ar := are_ok d 0 ((N.length : Int) - 1) S hd
  cases d with
  | tuple ds =>
    cases q : ds.all (inI 0 ((N.length : Int) - 1)) with
    | false =>
      rw [show areB 0 ((N.length : Int) - 1) (.tuple ds) = false from q] at ar
      rw [ha_no hb hn (lot_no ar), show apB N.length z (.tuple ds) = (ds.all (inI 0 ((N.length : Int) - 1)) && gapB z (intsD ds)) from rfl, q]
      rfl
    | true =>
      rw [show areB 0 ((N.length : Int) - 1) (.tuple ds) = true from q] at ar
      obtain ⟨f, rfl, _⟩ := iD_of ds q
      have fl := hd _ rfl
      rw [iD_len] at fl
      have lo := lot_ok fl ar
      rw [show apB N.length z (.tuple (iD f)) = ((iD f).all (inI 0 ((N.length : Int) - 1)) && gapB z (intsD (iD f))) from rfl, q, intsD_iD, Bool.true_and, ← gap_ris (by omega) f]
      cases r : risB f with
      | true => rw [r] at lo; rw [ha_yes fl hb hn lo, Bool.true_and]
      | false => rw [r] at lo; rw [ha_no hb hn lo, Bool.false_and]
  | _ => exact ha_no hb hn (lot_no ar)
theorem la_el {C T : D} {d : D} {n : Int} (hn : fLen [.d C] S = .ok (.d (.int n)) S) : l0__law_is_apart [some (.d C), some (.d (.int z)), some (.d T), some (.d d), none] S = .ok (.d (.bool (inI 0 (n - 1) d))) S := by
  cases d with
  | int i =>
    have e : inI 0 (n - 1) (.int i) = (decide (0 ≤ i) && decide (i < n)) := by
      have : inI 0 (n - 1) (.int i) = decide (0 ≤ i ∧ i ≤ n - 1) := rfl
      rw [this, Bool.eq_iff_iff]
      simp
      omega
    rw [e]
    by_cases q : 0 ≤ i <;> simp [l0__law_is_apart, li_int, isI, hn, q]
  | _ => simp [l0__law_is_apart, li_int, isI, inI]
theorem la_core {C : D} {ds B : List D} {c e : Bool} (lc : lcL (gN 3) tYesD l0__law_is_apart [some (.d C), some (.d (.int z)), some (.d (.tuple ds)), none, none] ds [] S = .ok B S) (al : fAll [.d (.list B)] S = .ok (.d (.bool c)) S) (w : c = true → ∃ X B2, iRange (aCons (eBin oSub (eCall fLen (aCons (eVar 2) aNil)) (eD (.int 1))) aNil) [some (.d C), some (.d (.int z)), some (.d (.tuple ds)), none, none] S = .ok X S ∧ lcL (gN 4) tYesD l1__law_is_apart [some (.d C), some (.d (.int z)), some (.d (.tuple ds)), none, none] X [] S = .ok B2 S ∧ fAll [.d (.list B2)] S = .ok (.d (.bool e)) S) : g__law_is_apart [.d C, .d (.int z), .d (.tuple ds)] S = .ok (.d (.bool (c && e))) S := by
  have e0 : sIf (tOr (tNot (tOf (eCall fIsi (aCons (eVar 2) (aCons (eTy .tup) aNil))))) (tNot (tOf (eCall fAll (aCons (eLc false (iSeq (eVar 2)) (gN 3) tYesD l0__law_is_apart [3]) aNil))))) (sRet (eD (.bool false))) sNil [some (.d C), some (.d (.int z)), some (.d (.tuple ds)), none, none] S = if c = true then .nx [some (.d C), some (.d (.int z)), some (.d (.tuple ds)), none, none] S else .ret (.d (.bool false)) S := by
    cases c <;> simp [fIsi, isTy, seqOf, wipeE, lc, al]
  have key : b__law_is_apart [some (.d C), some (.d (.int z)), some (.d (.tuple ds)), none, none] S = .ret (.d (.bool (c && e))) S := by
    rw [b__law_is_apart, ap_sCons, e0]
    cases c with
    | true =>
      obtain ⟨X, B2, w1, w2, w3⟩ := w rfl
      rw [if_pos rfl, seq_nx, ap_sRet, ap_eCall, ap_aCons, ap_eLc, w1, bind_ok]
      simp [wipeE, w2, w3]
    | false =>
      rw [if_neg (by simp)]
      simp [SRes.seq]
  rw [g__law_is_apart]
  have := fn_ret (n := 5) (sb := b__law_is_apart) (vs := [.d C, .d (.int z), .d (.tuple ds)]) key
  rw [this]
  simp
theorem la_el2 {C : D} {F : List D} {i a b : Int} (h1 : atI F (i + 1) = some (.int b)) (h0 : atI F i = some (.int a)) : l1__law_is_apart [some (.d C), some (.d (.int z)), some (.d (.tuple F)), none, some (.d (.int i))] S = .ok (.d (.bool (decide (z ≤ b - a)))) S := by
  simp [l1__law_is_apart, oIx, view, h1, h0, oPost]
theorem lflag_ok (h : OkN N) (d : D) (hd : ∀ ds, d = .tuple ds → ds.length ≤ 900) (S : Store) : g__law_is_apart [.d (nD N), .d (.int z), .d d] S = .ok (.d (.bool (apB N.length z d))) S := by
  have hn := Seen.ln (v := .d (nD N)) (S := S) (F := N) (.inr rfl)
  cases d with
  | tuple ds =>
    have dl := hd ds rfl
    have lc := lcL_flag (tg := gN 3) (f := l0__law_is_apart) (ρ := [some (.d (nD N)), some (.d (.int z)), some (.d (.tuple ds)), none, none]) (S := S) (inI 0 ((N.length : Int) - 1)) ds (fun x _ => ⟨_, rfl, la_el hn⟩) (by omega)
    have al := all_bools (ds.map (inI 0 ((N.length : Int) - 1))) S
    rw [List.all_map] at al
    exact la_core (e := gapB z (intsD ds)) lc al (fun c => by
      obtain ⟨f, rfl, _⟩ := iD_of ds c
      rw [intsD_iD]
      rw [iD_len] at dl
      have lf := Seen.ln (v := .d (.tuple (iD f))) (S := S) (F := f) (.inr rfl)
      have it : iRange (aCons (eBin oSub (eCall fLen (aCons (eVar 2) aNil)) (eD (.int 1))) aNil) [some (.d (nD N)), some (.d (.int z)), some (.d (.tuple (iD f))), none, none] S = .ok ((List.range (f.length - 1)).map fun (i : Nat) => .int (i : Nat)) S := by
        have e : aCons (eBin oSub (eCall fLen (aCons (eVar 2) aNil)) (eD (.int 1))) aNil [some (.d (nD N)), some (.d (.int z)), some (.d (.tuple (iD f))), none, none] S = .ok [.d (.int ((f.length : Int) - 1))] S := by
          refine aC ?_ aN
          rw [ap_eBin, ap_eCall, aC (f := eVar 2) rfl aN, bind_ok, lf, bind_ok, ap_eD, bind_ok]
          simp
        rw [iRange_1 e (by omega) (by omega)]
        by_cases q : f.length = 0
        · rw [q]
          rfl
        · rw [rangeD_iD (n := f.length - 1) (by omega)]
      have lc2 := lcL_map (tg := gN 4) (f := l1__law_is_apart) (ρ := [some (.d (nD N)), some (.d (.int z)), some (.d (.tuple (iD f))), none, none]) (S := S) (fun i : Nat => PyData.int i) (fun i => .bool (decide (z ≤ atN f (i + 1) - atN f i))) (List.range (f.length - 1)) (fun i hi => ⟨_, rfl, by
        have hi := List.mem_range.mp hi
        exact la_el2 (by rw [show ((i : Int) + 1) = ((i + 1 : Nat) : Int) by omega]; exact at_iD (by omega)) (at_iD (by omega))⟩) (by simp; omega)
      refine ⟨_, _, it, lc2, ?_⟩
      have al2 := all_bools ((List.range (f.length - 1)).map fun i => decide (z ≤ atN f (i + 1) - atN f i)) S
      rw [List.map_map, List.all_map] at al2
      rw [← gap_ix f]
      exact al2)
  | _ => simp [g__law_is_apart, ap_fnOf, b__law_is_apart, List.replicate, fIsi, isTy, apB, leave]
theorem aw_core {C : D} {W : List D} (h1 : g_check_starts [.d C] S = .ok (.d .none) S) (h2 : g_check_length [.d (.int z)] S = .ok (.d .none) S) (w : g_raw_at_work [.d C, .d (.int z)] S = .ok (.d (.tuple W)) S) : g_at_work [.d C, .d (.int z)] S = .ok (.d (.tuple W)) S := by
  simp [g_at_work, ap_fnOf, b_at_work, List.replicate, h1, h2, w, leave]
theorem len_good (hz : 1 ≤ z ∧ z ≤ 24) : g_check_length [.d (.int z)] S = .ok (.d .none) S := by
  rw [check_length_ok, show inI 1 24 (.int z) = true by simp [inI, hz]]
  rfl
theorem at_work_ok {F : List Int} (hz : z = (L : Int)) (hL : 1 ≤ L ∧ L ≤ 24) (h : OkS F) (S : Store) : g_at_work [.d (nD F), .d (.int z)] S = .ok (.d (.tuple (iD (wk L F)))) S :=
  aw_core (h.chk S) (len_good (by omega)) (prog_work_ok (v := .d (nD F)) (.inr rfl) hz hL.1 (by have := h.l2; omega))
theorem oh_core {C F : D} {n : Int} {W : List D} {a b : Int} (c1 : g_check_needs [.d C] S = .ok (.d .none) S) (c2 : g_check_starts [.d F] S = .ok (.d .none) S) (l1 : fLen [.d F] S = .ok (.d (.int n)) S) (l2 : fLen [.d C] S = .ok (.d (.int n)) S) (c3 : g_check_length [.d (.int z)] S = .ok (.d .none) S) (en : g_are_enough [.d C, .d F, .d (.int z)] S = .ok (.d (.bool true)) S) (w : g_raw_at_work [.d F, .d (.int z)] S = .ok (.d (.tuple W)) S) (s1 : fSumX [.d (.tuple W)] S = .ok (.d (.int a)) S) (s2 : fSumX [.d C] S = .ok (.d (.int b)) S) : g_over_hours [.d C, .d F, .d (.int z)] S = .ok (.d (.int (a - b))) S := by
  have key : b_over_hours [some (.d C), some (.d F), some (.d (.int z))] S = .ret (.d (.int (a - b))) S := by
    rw [b_over_hours, ap_sCons]
    conv => lhs; arg 1; simp [t0_over_hours, c1]
    rw [seq_nx, ap_sCons]
    conv => lhs; arg 1; simp [t1_over_hours, c2]
    rw [seq_nx, ap_sCons]
    conv => lhs; arg 1; simp [t2_over_hours, l1, l2]
    rw [seq_nx, ap_sCons]
    conv => lhs; arg 1; simp [t3_over_hours, c3]
    rw [seq_nx, ap_sCons]
    conv => lhs; arg 1; simp [t4_over_hours, en]
    rw [seq_nx]
    simp [t5_over_hours, w, s1, s2]
  rw [g_over_hours]
  have := fn_ret (n := 3) (sb := b_over_hours) (vs := [.d C, .d F, .d (.int z)]) key
  rw [this]
  simp
theorem over_ok {F : List Int} (hz : z = (L : Int)) (hL : 1 ≤ L ∧ L ≤ 24) (h : OkN N) (hF : OkS F) (hl : F.length = N.length) (en : enB N (wk L F) = true) (S : Store) : g_over_hours [.d (nD N), .d (nD F), .d (.int z)] S = .ok (.d (.int ((wk L F).sum - N.sum))) S := by
  have e := enough_ok (S := S) hz hL.1 h F (by have := hF.l2; omega)
  rw [en] at e
  have l1 := Seen.ln (v := .d (nD F)) (S := S) (F := F) (.inr rfl)
  have l2 := Seen.ln (v := .d (nD N)) (S := S) (F := N) (.inr rfl)
  rw [hl] at l1
  exact oh_core (h.need S) (hF.chk S) l1 l2 (len_good (by omega)) e (prog_work_ok (v := .d (nD F)) (.inr rfl) hz hL.1 (by have := hF.l2; omega)) (sumX_tup _ _) (sumX_tup _ _)
end
set_option exponentiation.threshold 5000
theorem call2k' {f : Fn} {e1 e2 : Ev} {v1 v2 v : Vl} {ρ : Env} {S S1 : Store} (h1 : e1 ρ S = .ok v1 S) (h2 : e2 ρ S = .ok v2 S) (h : f [v1, v2] S = .ok v S1) : eCallN 2 f (aCons e1 (aCons e2 aNil)) ρ S = .ok v S1 := by
  rw [ap_eCallN, aC h1 (aC h2 aN), bind_ok, if_pos (show [v1, v2].length = 2 from rfl), h]
structure SmT (d : D) : Prop where
  len : ∀ ds, d = .tuple ds → ds.length ≤ 900
  bd : ∀ ds, d = .tuple ds → ∀ x ∈ ds, ∀ i : Int, x = .int i → i ≤ 1000
theorem fn_retL {n : Nat} {sb : Sv} {vs : List Vl} {S S1 : Store} {v : D} (h : sb (vs.map some ++ List.replicate (n - vs.length) none) S = .ret (.d v) S1) (hl : S1.length = S.length) : fnOf n sb vs S = .ok (.d v) S1 := by
  rw [fn_ret h, ← hl, List.take_length]
theorem needs_lc {R : Store} (tp : Int) (x1 : Option Vl) (ht : 1 ≤ tp ∧ tp ≤ 21) : ∀ (xs acc : List D) (m : MO), IsHand m → acc.length + xs.length ≤ 1000 → ∃ (ys : List Int) (m' : MO), IsHand m' ∧ ys.length = xs.length ∧ (∀ y ∈ ys, 0 ≤ y ∧ y ≤ 20) ∧ lcL (gN 3) tYesD l0__law_needs [some (.loc 0), x1, some (.d (.int tp)), none] xs acc (m :: R) = .ok (acc ++ iD ys) (m' :: R) := by
  intro xs
  induction xs with
  | nil => exact fun acc m H _ => ⟨[], m, H, rfl, by simp, by simp [iD]⟩
  | cons x xs ih =>
    intro acc m H hl
    have hl' : acc.length + (xs.length + 1) ≤ 1000 := hl
    obtain ⟨r, m1, r0, r1, H1, e1⟩ := draw_ok tp m R (by omega) (by omega) H
    obtain ⟨ys, m', H', l', h', e⟩ := ih (acc ++ [.int r]) m1 H1 (by simp; omega)
    refine ⟨r :: ys, m', H', by simp [l'], fun v hv => ?_, ?_⟩
    · rcases List.mem_cons.mp hv with rfl | hv
      · omega
      · exact h' v hv
    · have hs : acc.length < sizeLine := Nat.lt_of_lt_of_le (by omega) (line1000 (Nat.le_refl 1000))
      have el : l0__law_needs [some (.loc 0), x1, some (.d (.int tp)), some (.d x)] (m :: R) = .ok (.d (.int r)) (m1 :: R) := by
        simp [l0__law_needs, e1]
      unfold lcL
      simp only [ap_gN, List.set_cons_succ, List.set_cons_zero, ap_tYesD, noX_ok, bind_ok, if_true, el, fr_d, hs]
      rw [e]
      simp [iD]
theorem needsL_core {R : Store} {m m1 m2 m3 : MO} {most tp r : Int} {X Y : List D} (e1 : g__law_any [.loc 0, .d (.list [.int 2, .int 5, .int 21])] (m :: R) = .ok (.d (.int tp)) (m1 :: R)) (e2 : g__law_draw [.loc 0, .d (.int most)] (m1 :: R) = .ok (.d (.int r)) (m2 :: R)) (hr : -(2 ^ 62) ≤ 1 + r ∧ 1 + r < 2 ^ 62) (hX : rangeD 0 (1 + r) = X) (lc : lcL (gN 3) tYesD l0__law_needs [some (.loc 0), some (.d (.int most)), some (.d (.int tp)), none] X [] (m2 :: R) = .ok Y (m3 :: R)) : g__law_needs [.loc 0, .d (.int most)] (m :: R) = .ok (.d (.tuple Y)) (m3 :: R) := by
  have a : aCons (eBin (oAdd false) (eD (.int 1)) (eCallN 2 g__law_draw (aCons (eVar 0) (aCons (eVar 1) aNil)))) aNil [some (.loc 0), some (.d (.int most)), some (.d (.int tp)), none] (m1 :: R) = .ok [.d (.int (1 + r))] (m2 :: R) := by
    simp [e2]
  have it : iRange (aCons (eBin (oAdd false) (eD (.int 1)) (eCallN 2 g__law_draw (aCons (eVar 0) (aCons (eVar 1) aNil)))) aNil) [some (.loc 0), some (.d (.int most)), some (.d (.int tp)), none] (m1 :: R) = .ok X (m2 :: R) := by
    unfold iRange
    rw [a, bind_ok]
    simp only [view_d, if_pos hr, hX]
  have key : b__law_needs [some (.loc 0), some (.d (.int most)), none, none] (m :: R) = .ret (.d (.tuple Y)) (m3 :: R) := by
    rw [b__law_needs, ap_sCons]
    conv => lhs; arg 1; simp [e1]
    rw [seq_nx, ap_sRet, ap_eCall, ap_aCons, ap_eLc, it, bind_ok]
    simp [wipeE, lc, fTuple]
  exact fn_retL (n := 4) (sb := b__law_needs) (vs := [.loc 0, .d (.int most)]) key (by simp)
theorem needs_ok {R : Store} {m : MO} {most : Int} (hm : 1 ≤ most ∧ most ≤ 24) (H : IsHand m) : ∃ N m', OkN N ∧ (N.length : Int) ≤ most ∧ IsHand m' ∧ g__law_needs [.loc 0, .d (.int most)] (m :: R) = .ok (.d (nD N)) (m' :: R) := by
  obtain ⟨y, m1, hy, H1, e1⟩ := some_ok (xs := [.int 2, .int 5, .int 21]) (R := R) (by simp) (by simp) H
  obtain ⟨tp, rfl, t0, t1⟩ : ∃ u : Int, y = .int u ∧ 1 ≤ u ∧ u ≤ 21 := by
    simp at hy
    rcases hy with rfl | rfl | rfl <;> exact ⟨_, rfl, by decide, by decide⟩
  obtain ⟨r, m2, r0, r1, H2, e2⟩ := draw_ok most m1 R (by omega) (by omega) H1
  have rl : (rangeD 0 (1 + r)).length = (1 + r).toNat := by unfold rangeD; simp
  obtain ⟨ys, m3, H3, l3, h3, lc⟩ := needs_lc tp (some (.d (.int most))) ⟨t0, t1⟩ (rangeD 0 (1 + r)) [] m2 H2 (by rw [rl]; simp; omega)
  rw [rl] at l3
  exact ⟨ys, m3, ⟨by omega, by omega, h3⟩, by omega, H3, needsL_core e1 e2 (by omega) rfl lc⟩
def DpT (d : D) : Prop := (∀ i : Int, d ≠ .int i) ∧ SmT d ∧ needsB d = false ∧ startsB d = false
theorem sm_other {d : D} (h : ∀ ds, d ≠ .tuple ds) : SmT d := ⟨fun ds e => absurd e (h ds), fun ds e => absurd e (h ds)⟩
theorem dp_tup {d : D} (h : DpT d) : DpT (.tuple [d]) := by
  have n1 : inI 0 20 d = false := by
    cases d with
    | int i => exact absurd rfl (h.1 i)
    | _ => rfl
  have n2 : inI 0 1000 d = false := by
    cases d with
    | int i => exact absurd rfl (h.1 i)
    | _ => rfl
  refine ⟨fun i e => by (cases e), ⟨fun ds e => ?_, fun ds e x hx i hi => ?_⟩, by simp [needsB, n1], by simp [startsB, n2]⟩
  · cases e
    simp
  · cases e
    simp at hx
    subst hx
    exact absurd hi (h.1 i)
theorem dp_other {d : D} (h1 : ∀ i : Int, d ≠ .int i) (h2 : ∀ ds, d ≠ .tuple ds) : DpT d := ⟨h1, sm_other h2, by
  cases d with
  | tuple ds => exact absurd rfl (h2 ds)
  | _ => rfl, by
  cases d with
  | tuple ds => exact absurd rfl (h2 ds)
  | _ => rfl⟩
def badB (d : D) : Bool := !needsB d && match d with
  | .tuple ds => decide (ds.length ≤ 900)
  | _ => true
def badS (d : D) : Bool := !startsB d && match d with
  | .tuple ds => decide (ds.length ≤ 900)
  | _ => true
theorem DpT.bad {d : D} (h : DpT d) : badB d = true ∧ badS d = true := by
  unfold badB badS
  rw [h.2.2.1, h.2.2.2]
  cases d with
  | tuple ds =>
    have := h.2.1.len ds rfl
    constructor <;> simpa using this
  | _ => exact ⟨rfl, rfl⟩
theorem dp_list {d : D} : DpT (.list [d]) := dp_other (fun i e => by (cases e)) (fun ds e => by (cases e))
theorem deep_loop {R : Store} : ∀ (xs : List D) (d : D) (m : MO) (x2 : Option Vl), DpT d → IsHand m → ∃ d' m' y2, DpT d' ∧ IsHand m' ∧ forL (gN 2) l0__law_deep xs [some (.loc 0), some (.d d), x2] (m :: R) = .nx [some (.loc 0), some (.d d'), y2] (m' :: R) := by
  intro xs
  induction xs with
  | nil => exact fun d m x2 h H => ⟨d, m, x2, h, H, rfl⟩
  | cons x xs ih =>
    intro d m x2 h H
    obtain ⟨r, m1, r0, r1, H1, e1⟩ := draw_ok 2 m R (by omega) (by omega) H
    by_cases q : r = 0
    · subst q
      obtain ⟨d', m', y2, h', H', e⟩ := ih (.list [d]) m1 (some (.d x)) dp_list H1
      refine ⟨d', m', y2, h', H', ?_⟩
      rw [ap_forL1, ap_gN]
      simp only [List.set_cons_succ, List.set_cons_zero]
      have st : l0__law_deep [some (.loc 0), some (.d d), some (.d x)] (m :: R) = .nx [some (.loc 0), some (.d (.list [d])), some (.d x)] (m1 :: R) := by
        simp [l0__law_deep, e1, frs]
      rw [st]
      exact e
    · obtain ⟨d', m', y2, h', H', e⟩ := ih (.tuple [d]) m1 (some (.d x)) (dp_tup h) H1
      refine ⟨d', m', y2, h', H', ?_⟩
      rw [ap_forL1, ap_gN]
      simp only [List.set_cons_succ, List.set_cons_zero]
      have st : l0__law_deep [some (.loc 0), some (.d d), some (.d x)] (m :: R) = .nx [some (.loc 0), some (.d (.tuple [d])), some (.d x)] (m1 :: R) := by
        simp [l0__law_deep, e1, frs, q]
      rw [st]
      exact e
theorem deep_ok {R : Store} {m : MO} (H : IsHand m) : ∃ d m', DpT d ∧ IsHand m' ∧ g__law_deep [.loc 0] (m :: R) = .ok (.d d) (m' :: R) := by
  obtain ⟨d, m1, hd, H1, e1⟩ := some_ok (xs := [.none, .str "X", .dict []]) (R := R) (by simp) (by simp) H
  have h0 : DpT d := by
    simp only [List.mem_cons, List.not_mem_nil, or_false] at hd
    rcases hd with rfl | rfl | rfl <;> exact dp_other (fun i e => by (cases e)) (fun ds e => by (cases e))
  obtain ⟨r, m2, r0, r1, H2, e2⟩ := draw_ok 30 m1 R (by omega) (by omega) H1
  obtain ⟨d', m3, y2, h3, H3, e3⟩ := deep_loop (rangeD 0 (1 + r)) d m2 none h0 H2
  refine ⟨d', m3, h3, H3, ?_⟩
  have dc : eLst false (aCons (eD .none) (aCons (eD (.str "X")) (aCons (eDic0 false) aNil))) [some (.loc 0), none, none] (m :: R) = .ok (.d (.list [.none, .str "X", .dict []])) (m :: R) := rfl
  have s0 : sSet 1 (eCallN 2 g__law_any (aCons (eVar 0) (aCons (eLst false (aCons (eD .none) (aCons (eD (.str "X")) (aCons (eDic0 false) aNil)))) aNil))) [some (.loc 0), none, none] (m :: R) = .nx [some (.loc 0), some (.d d), none] (m1 :: R) := by
    rw [ap_sSet, ap_eCallN, aC (f := eVar 0) rfl (aC dc aN), bind_ok, if_pos (show [Vl.loc 0, Vl.d (.list [.none, .str "X", .dict []])].length = 2 from rfl), e1]
    rfl
  have a : aCons (eBin (oAdd false) (eD (.int 1)) (eCallN 2 g__law_draw (aCons (eVar 0) (aCons (eD (.int 30)) aNil)))) aNil [some (.loc 0), some (.d d), none] (m1 :: R) = .ok [.d (.int (1 + r))] (m2 :: R) := by
    simp [e2]
  have it : iRange (aCons (eBin (oAdd false) (eD (.int 1)) (eCallN 2 g__law_draw (aCons (eVar 0) (aCons (eD (.int 30)) aNil)))) aNil) [some (.loc 0), some (.d d), none] (m1 :: R) = .ok (rangeD 0 (1 + r)) (m2 :: R) := iRange_1 a (by omega) (by omega)
  have key : b__law_deep [some (.loc 0), none, none] (m :: R) = .ret (.d d') (m3 :: R) := by
    rw [b__law_deep, ap_sCons, s0, seq_nx, ap_sCons, ap_sFor, it, st_ok, e3, seq_nx]
    rfl
  exact fn_retL (n := 3) (sb := b__law_deep) (vs := [.loc 0]) key (by simp)
theorem rep_bool (b : Bool) (S : Store) : ∃ x : Str, fReprX [.d (.bool b)] S = .ok (.d (.str x)) S := ⟨_, rp_reprX (rp_bool b) (by decide) (by decide)⟩
theorem shal_row (f : List Int) : shal (rwD f) = true := by
  have p := plain_ints f
  unfold rwD
  simp [shal, PyData.plain, PyData.depth, iD, p.1, p.2]
theorem shal_two (f : List Int) : shal (.list [rwD f, rwD f]) = true := by
  have p := plain_ints f
  unfold rwD
  simp [shal, PyData.plain, PyData.depth, PyData.plainAll, PyData.depthAll, iD, p.1, p.2]
theorem some_big {xs : List D} {m : MO} {R : Store} {v : Vl} (hv : ∀ m : MO, view (m :: R) v = some (.list xs)) (h : xs ≠ []) (hl : xs.length < 16000000) (H : IsHand m) : ∃ x m', x ∈ xs ∧ IsHand m' ∧ g__law_any [.loc 0, v] (m :: R) = .ok (.d x) (m' :: R) := by
  have hp : 0 < xs.length := List.length_pos_iff.mpr h
  obtain ⟨r, m', h0, h1, H', e⟩ := draw_ok xs.length m R (by omega) (by omega) H
  obtain ⟨k, rfl⟩ : ∃ k : Nat, r = k := ⟨r.toNat, by omega⟩
  have hk : k < xs.length := by omega
  have ex : atI xs k = some xs[k] := by rw [atI_nat]; simp [hk]
  have o := oIx_at (v := v) (hv m') ex
  have fl : fLen [v] (m :: R) = .ok (.d (.int xs.length)) (m :: R) := by simp [fLen, hv m]
  refine ⟨xs[k], m', List.getElem_mem hk, H', ?_⟩
  simp [g__law_any, ap_fnOf, b__law_any, fl, e, o, List.replicate]
section
variable {R : Store} {m m' : MO} {C : D} {z n : Int} {Ns Rw G Lt Dr T St W Be Mo B : List D} {S : Store} {y8 y13 y14 : Option Vl}
theorem two_ev {f : Fn} {ρ : Env} {d c : D} {i : Nat} (h1 : eVar i ρ S = .ok (.d c) S) (h2 : eVar 2 ρ S = .ok (.d (.int z)) S) (h : f [.d c, .d (.int z)] S = .ok (.d d) S) : eLst false (aCons (eCallN 2 f (aCons (eVar i) (aCons (eVar 2) aNil))) (aCons (eCallN 2 f (aCons (eVar i) (aCons (eVar 2) aNil))) aNil)) ρ S = .ok (.d (.list [d, d])) S := by
  rw [ap_eLst, aC (call2k h1 h2 h) (aC (call2k h1 h2 h) aN), bind_ok]
  rfl
theorem t0_ok {Ls : List D} (hl : fLen [.d (.tuple Ns)] S = .ok (.d (.int n)) S) (lo : g__law_lots_apart [.d (.int n), .d (.int z)] S = .ok (.d (.list Ls)) S) (lc : lcL (gN 5) tYesD l1__law_is_right [some (.loc 0), some (.d (.tuple Ns)), some (.d (.int z)), none, none, none, none, none, none, none, none, none, none, none, none, none, none] Ls [] S = .ok Rw S) : t0__law_is_right [some (.loc 0), some (.d (.tuple Ns)), some (.d (.int z)), none, none, none, none, none, none, none, none, none, none, none, none, none, none] S = .nx [some (.loc 0), some (.d (.tuple Ns)), some (.d (.int z)), some (.d (.list Rw)), none, none, none, none, none, none, none, none, none, none, none, none, none] S := by
  have e1 : eCall fLen (aCons (eVar 1) aNil) [some (.loc 0), some (.d (.tuple Ns)), some (.d (.int z)), none, none, none, none, none, none, none, none, none, none, none, none, none, none] S = .ok (.d (.int n)) S := by rw [ap_eCall, aC (f := eVar 1) rfl aN, bind_ok, hl]
  have it : iSeq (eCallN 2 g__law_lots_apart (aCons (eCall fLen (aCons (eVar 1) aNil)) (aCons (eVar 2) aNil))) [some (.loc 0), some (.d (.tuple Ns)), some (.d (.int z)), none, none, none, none, none, none, none, none, none, none, none, none, none, none] S = .ok Ls S := by
    rw [ap_iSeq, call2k (e2 := eVar 2) e1 rfl lo]
    rfl
  rw [t0__law_is_right, ap_sSet, ap_eLc, it, bind_ok]
  simp [wipeE, lc]
theorem t1_ok {p : D} (mn : fMin1 [.d (.list Rw)] S = .ok (.d (.tuple [p, .tuple G])) S) : t1__law_is_right [some (.loc 0), some (.d (.tuple Ns)), some (.d (.int z)), some (.d (.list Rw)), none, none, none, none, none, none, none, none, none, none, none, none, none] S = .nx [some (.loc 0), some (.d (.tuple Ns)), some (.d (.int z)), some (.d (.list Rw)), some (.d (.tuple G)), none, none, none, none, none, none, none, none, none, none, none, none] S := by
  have e : eCall fMin1 (aCons (eVar 3) aNil) [some (.loc 0), some (.d (.tuple Ns)), some (.d (.int z)), some (.d (.list Rw)), none, none, none, none, none, none, none, none, none, none, none, none, none] S = .ok (.d (.tuple [p, .tuple G])) S := by rw [ap_eCall, aC (f := eVar 3) rfl aN, bind_ok, mn]
  rw [t1__law_is_right, ap_sSet, ap_eBin, e, bind_ok]
  rfl
theorem t2_ok (h : g_hours_apart [.d (.tuple Ns), .d (.int z)] S = .ok (.d (.tuple G)) S) (q : oNe (.d (.list [.tuple G, .tuple G])) (.d (.list [.tuple G, .tuple G])) S = .ok (.d (.bool false)) S) : t2__law_is_right [some (.loc 0), some (.d (.tuple Ns)), some (.d (.int z)), some (.d (.list Rw)), some (.d (.tuple G)), none, none, none, none, none, none, none, none, none, none, none, none] S = .nx [some (.loc 0), some (.d (.tuple Ns)), some (.d (.int z)), some (.d (.list Rw)), some (.d (.tuple G)), none, none, none, none, none, none, none, none, none, none, none, none] S := by
  have e1 := two_ev (ρ := [some (.loc 0), some (.d (.tuple Ns)), some (.d (.int z)), some (.d (.list Rw)), some (.d (.tuple G)), none, none, none, none, none, none, none, none, none, none, none, none]) (i := 1) rfl rfl h
  have e2 : eLst false (aCons (eVar 4) (aCons (eVar 4) aNil)) [some (.loc 0), some (.d (.tuple Ns)), some (.d (.int z)), some (.d (.list Rw)), some (.d (.tuple G)), none, none, none, none, none, none, none, none, none, none, none, none] S = .ok (.d (.list [.tuple G, .tuple G])) S := rfl
  rw [t2__law_is_right, ap_sIf, ap_tOf, ap_eBin, e1, bind_ok, e2, bind_ok, q]
  rfl
theorem t3_ok {p : D} (h : g__law_any [.loc 0, .d (.list Rw)] (m :: R) = .ok (.d (.tuple [p, .tuple Lt])) (m' :: R)) : t3__law_is_right [some (.loc 0), some (.d (.tuple Ns)), some (.d (.int z)), some (.d (.list Rw)), some (.d (.tuple G)), none, none, none, none, none, none, none, none, none, none, none, none] (m :: R) = .nx [some (.loc 0), some (.d (.tuple Ns)), some (.d (.int z)), some (.d (.list Rw)), some (.d (.tuple G)), some (.d (.tuple Lt)), none, none, none, none, none, none, none, none, none, none, none] (m' :: R) := by
  have e : eCallN 2 g__law_any (aCons (eVar 0) (aCons (eVar 3) aNil)) [some (.loc 0), some (.d (.tuple Ns)), some (.d (.int z)), some (.d (.list Rw)), some (.d (.tuple G)), none, none, none, none, none, none, none, none, none, none, none, none] (m :: R) = .ok (.d (.tuple [p, .tuple Lt])) (m' :: R) := call2k' (e1 := eVar 0) (e2 := eVar 3) rfl rfl h
  rw [t3__law_is_right, ap_sSet, ap_eBin, e, bind_ok]
  rfl
theorem draws_lc (nl : Int) (hn : 1 ≤ nl ∧ nl ≤ 24) (hl : ∀ S, fLen [.d (.tuple Ns)] S = .ok (.d (.int nl)) S) : ∀ (xs acc : List D) (m : MO), IsHand m → acc.length + xs.length ≤ 1000 → ∃ (ys : List Int) (m' : MO), IsHand m' ∧ ys.length = xs.length ∧ lcL (gN 15) tYesD l2__law_is_right [some (.loc 0), some (.d (.tuple Ns)), some (.d (.int z)), some (.d (.list Rw)), some (.d (.tuple G)), some (.d (.tuple Lt)), none, none, none, none, none, none, none, none, none, none, none] xs acc (m :: R) = .ok (acc ++ iD ys) (m' :: R) := by
  intro xs
  induction xs with
  | nil => exact fun acc m H _ => ⟨[], m, H, rfl, by simp [iD]⟩
  | cons x xs ih =>
    intro acc m H hb
    have hb' : acc.length + (xs.length + 1) ≤ 1000 := hb
    obtain ⟨r, m1, r0, r1, H1, e1⟩ := draw_ok nl m R (by omega) (by omega) H
    obtain ⟨ys, m', H', l', e⟩ := ih (acc ++ [.int r]) m1 H1 (by simp; omega)
    refine ⟨r :: ys, m', H', by simp [l'], ?_⟩
    have hs : acc.length < sizeLine := Nat.lt_of_lt_of_le (by omega) (line1000 (Nat.le_refl 1000))
    have el : l2__law_is_right [some (.loc 0), some (.d (.tuple Ns)), some (.d (.int z)), some (.d (.list Rw)), some (.d (.tuple G)), some (.d (.tuple Lt)), none, none, none, none, none, none, none, none, none, some (.d x), none] (m :: R) = .ok (.d (.int r)) (m1 :: R) := by
      have q := hl (m :: R)
      have e2 : eCall fLen (aCons (eVar 1) aNil) [some (.loc 0), some (.d (.tuple Ns)), some (.d (.int z)), some (.d (.list Rw)), some (.d (.tuple G)), some (.d (.tuple Lt)), none, none, none, none, none, none, none, none, none, some (.d x), none] (m :: R) = .ok (.d (.int nl)) (m :: R) := by rw [ap_eCall, aC (f := eVar 1) rfl aN, bind_ok, q]
      exact call2k' (e1 := eVar 0) rfl e2 e1
    unfold lcL
    simp only [ap_gN, List.set_cons_succ, List.set_cons_zero, ap_tYesD, noX_ok, bind_ok, if_true, el, fr_d, hs]
    rw [e]
    simp [iD]
theorem t4_ok {r : Int} {X : List D} {ys : List Int} {m1 : MO} (e : g__law_draw [.loc 0, .d (.int 4)] (m :: R) = .ok (.d (.int r)) (m1 :: R)) (hr : 0 ≤ r ∧ r < 4) (hX : rangeD 0 r = X) (lc : lcL (gN 15) tYesD l2__law_is_right [some (.loc 0), some (.d (.tuple Ns)), some (.d (.int z)), some (.d (.list Rw)), some (.d (.tuple G)), some (.d (.tuple Lt)), none, none, none, none, none, none, none, none, none, none, none] X [] (m1 :: R) = .ok (iD ys) (m' :: R)) (hy : ys.length < 64) : t4__law_is_right [some (.loc 0), some (.d (.tuple Ns)), some (.d (.int z)), some (.d (.list Rw)), some (.d (.tuple G)), some (.d (.tuple Lt)), none, none, none, none, none, none, none, none, none, none, none] (m :: R) = .nx [some (.loc 0), some (.d (.tuple Ns)), some (.d (.int z)), some (.d (.list Rw)), some (.d (.tuple G)), some (.d (.tuple Lt)), some (.d (.tuple (iD (sortU ys)))), none, none, none, none, none, none, none, none, none, none] (m' :: R) := by
  have a : aCons (eCallN 2 g__law_draw (aCons (eVar 0) (aCons (eD (.int 4)) aNil))) aNil [some (.loc 0), some (.d (.tuple Ns)), some (.d (.int z)), some (.d (.list Rw)), some (.d (.tuple G)), some (.d (.tuple Lt)), none, none, none, none, none, none, none, none, none, none, none] (m :: R) = .ok [.d (.int r)] (m1 :: R) := by simp [e]
  have it := iRange_1 a (by omega) (by omega)
  rw [hX] at it
  have e1 : eLc false (iRange (aCons (eCallN 2 g__law_draw (aCons (eVar 0) (aCons (eD (.int 4)) aNil))) aNil)) (gN 15) tYesD l2__law_is_right [15] [some (.loc 0), some (.d (.tuple Ns)), some (.d (.int z)), some (.d (.list Rw)), some (.d (.tuple G)), some (.d (.tuple Lt)), none, none, none, none, none, none, none, none, none, none, none] (m :: R) = .ok (.d (.list (iD ys))) (m' :: R) := by
    rw [ap_eLc, it, bind_ok]
    simp [wipeE, lc]
  have e2 : eSrtSet false (eLc false (iRange (aCons (eCallN 2 g__law_draw (aCons (eVar 0) (aCons (eD (.int 4)) aNil))) aNil)) (gN 15) tYesD l2__law_is_right [15]) [some (.loc 0), some (.d (.tuple Ns)), some (.d (.int z)), some (.d (.list Rw)), some (.d (.tuple G)), some (.d (.tuple Lt)), none, none, none, none, none, none, none, none, none, none, none] (m :: R) = .ok (.d (.list (iD (sortU ys)))) (m' :: R) := by
    rw [ap_eSrtSet, e1, bind_ok]
    simp [intsOf_iD, hy, mkK]
  rw [t4__law_is_right, ap_sSet, ap_eCall, aC e2 aN, bind_ok]
  simp [fTuple]
theorem t5_ok (hn : fLen [.d (.tuple Ns)] S = .ok (.d (.int n)) S) (hl : Lt.length ≤ 100) (hd : Dr.length ≤ 100) : t5__law_is_right [some (.loc 0), some (.d (.tuple Ns)), some (.d (.int z)), some (.d (.list Rw)), some (.d (.tuple G)), some (.d (.tuple Lt)), some (.d (.tuple Dr)), none, none, none, none, none, none, none, none, none, none] S = .nx [some (.loc 0), some (.d (.tuple Ns)), some (.d (.int z)), some (.d (.list Rw)), some (.d (.tuple G)), some (.d (.tuple Lt)), some (.d (.tuple Dr)), some (.d (.list [.tuple G, .tuple Lt, .tuple Dr, .list Lt, .tuple (Lt ++ [.int n]), .tuple (.int (-1) :: Lt), .tuple Dr.reverse, .tuple (Dr ++ Dr), .none, .int 0])), none, none, none, none, none, none, none, none, none] S := by
  have b1 : eCall (fList false) (aCons (eVar 5) aNil) [some (.loc 0), some (.d (.tuple Ns)), some (.d (.int z)), some (.d (.list Rw)), some (.d (.tuple G)), some (.d (.tuple Lt)), some (.d (.tuple Dr)), none, none, none, none, none, none, none, none, none, none] S = .ok (.d (.list Lt)) S := by simp [fList, mkK]
  have l0 : eCall fLen (aCons (eVar 1) aNil) [some (.loc 0), some (.d (.tuple Ns)), some (.d (.int z)), some (.d (.list Rw)), some (.d (.tuple G)), some (.d (.tuple Lt)), some (.d (.tuple Dr)), none, none, none, none, none, none, none, none, none, none] S = .ok (.d (.int n)) S := by rw [ap_eCall, aC (f := eVar 1) rfl aN, bind_ok, hn]
  have t : eTup (aCons (eCall fLen (aCons (eVar 1) aNil)) aNil) [some (.loc 0), some (.d (.tuple Ns)), some (.d (.int z)), some (.d (.list Rw)), some (.d (.tuple G)), some (.d (.tuple Lt)), some (.d (.tuple Dr)), none, none, none, none, none, none, none, none, none, none] S = .ok (.d (.tuple [.int n])) S := by
    rw [ap_eTup, aC l0 aN, bind_ok]
    rfl
  have b2 : eBin (oAdd false) (eVar 5) (eTup (aCons (eCall fLen (aCons (eVar 1) aNil)) aNil)) [some (.loc 0), some (.d (.tuple Ns)), some (.d (.int z)), some (.d (.list Rw)), some (.d (.tuple G)), some (.d (.tuple Lt)), some (.d (.tuple Dr)), none, none, none, none, none, none, none, none, none, none] S = .ok (.d (.tuple (Lt ++ [.int n]))) S := by
    rw [ap_eBin, show eVar 5 [some (.loc 0), some (.d (.tuple Ns)), some (.d (.int z)), some (.d (.list Rw)), some (.d (.tuple G)), some (.d (.tuple Lt)), some (.d (.tuple Dr)), none, none, none, none, none, none, none, none, none, none] S = .ok (.d (.tuple Lt)) S from rfl, bind_ok, t, bind_ok, add_tup (by simp; omega)]
  have ng : eUn oNeg (eD (.int 1)) [some (.loc 0), some (.d (.tuple Ns)), some (.d (.int z)), some (.d (.list Rw)), some (.d (.tuple G)), some (.d (.tuple Lt)), some (.d (.tuple Dr)), none, none, none, none, none, none, none, none, none, none] S = .ok (.d (.int (-1))) S := by simp
  have t1 : eTup (aCons (eUn oNeg (eD (.int 1))) aNil) [some (.loc 0), some (.d (.tuple Ns)), some (.d (.int z)), some (.d (.list Rw)), some (.d (.tuple G)), some (.d (.tuple Lt)), some (.d (.tuple Dr)), none, none, none, none, none, none, none, none, none, none] S = .ok (.d (.tuple [.int (-1)])) S := by
    rw [ap_eTup, aC ng aN, bind_ok]
    rfl
  have b3 : eBin (oAdd false) (eTup (aCons (eUn oNeg (eD (.int 1))) aNil)) (eVar 5) [some (.loc 0), some (.d (.tuple Ns)), some (.d (.int z)), some (.d (.list Rw)), some (.d (.tuple G)), some (.d (.tuple Lt)), some (.d (.tuple Dr)), none, none, none, none, none, none, none, none, none, none] S = .ok (.d (.tuple (.int (-1) :: Lt))) S := by
    rw [ap_eBin, t1, bind_ok, show eVar 5 [some (.loc 0), some (.d (.tuple Ns)), some (.d (.int z)), some (.d (.list Rw)), some (.d (.tuple G)), some (.d (.tuple Lt)), some (.d (.tuple Dr)), none, none, none, none, none, none, none, none, none, none] S = .ok (.d (.tuple Lt)) S from rfl, bind_ok, add_tup (by simp; omega)]
    rfl
  have b4 : eRev false (eVar 6) [some (.loc 0), some (.d (.tuple Ns)), some (.d (.int z)), some (.d (.list Rw)), some (.d (.tuple G)), some (.d (.tuple Lt)), some (.d (.tuple Dr)), none, none, none, none, none, none, none, none, none, none] S = .ok (.d (.tuple Dr.reverse)) S := by
    rw [ap_eRev, show eVar 6 [some (.loc 0), some (.d (.tuple Ns)), some (.d (.int z)), some (.d (.list Rw)), some (.d (.tuple G)), some (.d (.tuple Lt)), some (.d (.tuple Dr)), none, none, none, none, none, none, none, none, none, none] S = .ok (.d (.tuple Dr)) S from rfl, bind_ok]
    rfl
  have b5 : eBin (oAdd false) (eVar 6) (eVar 6) [some (.loc 0), some (.d (.tuple Ns)), some (.d (.int z)), some (.d (.list Rw)), some (.d (.tuple G)), some (.d (.tuple Lt)), some (.d (.tuple Dr)), none, none, none, none, none, none, none, none, none, none] S = .ok (.d (.tuple (Dr ++ Dr))) S := by
    rw [ap_eBin, show eVar 6 [some (.loc 0), some (.d (.tuple Ns)), some (.d (.int z)), some (.d (.list Rw)), some (.d (.tuple G)), some (.d (.tuple Lt)), some (.d (.tuple Dr)), none, none, none, none, none, none, none, none, none, none] S = .ok (.d (.tuple Dr)) S from rfl, bind_ok, show eVar 6 [some (.loc 0), some (.d (.tuple Ns)), some (.d (.int z)), some (.d (.list Rw)), some (.d (.tuple G)), some (.d (.tuple Lt)), some (.d (.tuple Dr)), none, none, none, none, none, none, none, none, none, none] S = .ok (.d (.tuple Dr)) S from rfl, bind_ok, add_tup (by omega)]
  have A := aC (f := eVar 4) (ρ := [some (.loc 0), some (.d (.tuple Ns)), some (.d (.int z)), some (.d (.list Rw)), some (.d (.tuple G)), some (.d (.tuple Lt)), some (.d (.tuple Dr)), none, none, none, none, none, none, none, none, none, none]) (S := S) (v := .d (.tuple G)) rfl (aC (f := eVar 5) rfl (aC (f := eVar 6) rfl (aC b1 (aC b2 (aC b3 (aC b4 (aC b5 (aC (f := eD .none) rfl (aC (f := eD (.int 0)) rfl aN)))))))))
  rw [t5__law_is_right, ap_sSet, ap_eLst, A, bind_ok]
  rfl
theorem l3_ok {d : D} {b : Bool} (h1 : g_is_hours_apart [.d (.tuple Ns), .d (.int z), .d d] S = .ok (.d (.bool b)) S) (h2 : g__law_is_apart [.d (.tuple Ns), .d (.int z), .d d] S = .ok (.d (.bool b)) S) : l3__law_is_right [some (.loc 0), some (.d (.tuple Ns)), some (.d (.int z)), some (.d (.list Rw)), some (.d (.tuple G)), some (.d (.tuple Lt)), some (.d (.tuple Dr)), some (.d (.list T)), some (.d d), none, none, none, none, none, none, none, none] S = .nx [some (.loc 0), some (.d (.tuple Ns)), some (.d (.int z)), some (.d (.list Rw)), some (.d (.tuple G)), some (.d (.tuple Lt)), some (.d (.tuple Dr)), some (.d (.list T)), some (.d d), none, none, none, none, none, none, none, none] S := by
  obtain ⟨x, rx⟩ := rep_bool b S
  have e1 : eCall fReprX (aCons (eCallN 3 g_is_hours_apart (aCons (eVar 1) (aCons (eVar 2) (aCons (eVar 8) aNil)))) aNil) [some (.loc 0), some (.d (.tuple Ns)), some (.d (.int z)), some (.d (.list Rw)), some (.d (.tuple G)), some (.d (.tuple Lt)), some (.d (.tuple Dr)), some (.d (.list T)), some (.d d), none, none, none, none, none, none, none, none] S = .ok (.d (.str x)) S := by
    have c : eCallN 3 g_is_hours_apart (aCons (eVar 1) (aCons (eVar 2) (aCons (eVar 8) aNil))) [some (.loc 0), some (.d (.tuple Ns)), some (.d (.int z)), some (.d (.list Rw)), some (.d (.tuple G)), some (.d (.tuple Lt)), some (.d (.tuple Dr)), some (.d (.list T)), some (.d d), none, none, none, none, none, none, none, none] S = .ok (.d (.bool b)) S := by
      rw [ap_eCallN, aC (f := eVar 1) rfl (aC (f := eVar 2) rfl (aC (f := eVar 8) rfl aN)), bind_ok, if_pos (show [Vl.d (.tuple Ns), Vl.d (.int z), Vl.d d].length = 3 from rfl), h1]
    rw [ap_eCall, aC c aN, bind_ok, rx]
  have e2 : eCall fReprX (aCons (eCallN 3 g__law_is_apart (aCons (eVar 1) (aCons (eVar 2) (aCons (eVar 8) aNil)))) aNil) [some (.loc 0), some (.d (.tuple Ns)), some (.d (.int z)), some (.d (.list Rw)), some (.d (.tuple G)), some (.d (.tuple Lt)), some (.d (.tuple Dr)), some (.d (.list T)), some (.d d), none, none, none, none, none, none, none, none] S = .ok (.d (.str x)) S := by
    have c : eCallN 3 g__law_is_apart (aCons (eVar 1) (aCons (eVar 2) (aCons (eVar 8) aNil))) [some (.loc 0), some (.d (.tuple Ns)), some (.d (.int z)), some (.d (.list Rw)), some (.d (.tuple G)), some (.d (.tuple Lt)), some (.d (.tuple Dr)), some (.d (.list T)), some (.d d), none, none, none, none, none, none, none, none] S = .ok (.d (.bool b)) S := by
      rw [ap_eCallN, aC (f := eVar 1) rfl (aC (f := eVar 2) rfl (aC (f := eVar 8) rfl aN)), bind_ok, if_pos (show [Vl.d (.tuple Ns), Vl.d (.int z), Vl.d d].length = 3 from rfl), h2]
    rw [ap_eCall, aC c aN, bind_ok, rx]
  have q : oNe (.d (.str x)) (.d (.str x)) S = .ok (.d (.bool false)) S := oNe_same rfl
  rw [l3__law_is_right, ap_sIf, ap_tOf, ap_eBin, e1, bind_ok, e2, bind_ok, q]
  rfl
theorem t6_it {dp : D} (hT : T.length ≤ 100) (dd : g__law_deep [.loc 0] (m :: R) = .ok (.d dp) (m' :: R)) : iSeq (eBin (oAdd false) (eVar 7) (eLst false (aCons (eD (.str "x")) (aCons (eDic0 false) (aCons (eTup aNil) (aCons (eTup (aCons (eD (.bool true)) aNil)) (aCons (eTup (aCons (eD (.str "0")) aNil)) (aCons (eTup (aCons (eD .none) aNil)) (aCons (eCallN 1 g__law_deep (aCons (eVar 0) aNil)) aNil))))))))) [some (.loc 0), some (.d (.tuple Ns)), some (.d (.int z)), some (.d (.list Rw)), some (.d (.tuple G)), some (.d (.tuple Lt)), some (.d (.tuple Dr)), some (.d (.list T)), none, none, none, none, none, none, none, none, none] (m :: R) = .ok (T ++ [.str "x", .dict [], .tuple [], .tuple [.bool true], .tuple [.str "0"], .tuple [.none], dp]) (m' :: R) := by
  have c : eCallN 1 g__law_deep (aCons (eVar 0) aNil) [some (.loc 0), some (.d (.tuple Ns)), some (.d (.int z)), some (.d (.list Rw)), some (.d (.tuple G)), some (.d (.tuple Lt)), some (.d (.tuple Dr)), some (.d (.list T)), none, none, none, none, none, none, none, none, none] (m :: R) = .ok (.d dp) (m' :: R) := by
    rw [ap_eCallN, aC (f := eVar 0) rfl aN, bind_ok, if_pos (show [Vl.loc 0].length = 1 from rfl), dd]
  have b5 : eDic0 false [some (.loc 0), some (.d (.tuple Ns)), some (.d (.int z)), some (.d (.list Rw)), some (.d (.tuple G)), some (.d (.tuple Lt)), some (.d (.tuple Dr)), some (.d (.list T)), none, none, none, none, none, none, none, none, none] (m :: R) = .ok (.d (.dict [])) (m :: R) := by
    simp
    rfl
  have A := aC (f := eD (.str "x")) (ρ := [some (.loc 0), some (.d (.tuple Ns)), some (.d (.int z)), some (.d (.list Rw)), some (.d (.tuple G)), some (.d (.tuple Lt)), some (.d (.tuple Dr)), some (.d (.list T)), none, none, none, none, none, none, none, none, none]) (S := m :: R) rfl (aC b5 (aC (f := eTup aNil) (v := .d (.tuple [])) rfl (aC (f := eTup (aCons (eD (.bool true)) aNil)) (v := .d (.tuple [.bool true])) rfl (aC (f := eTup (aCons (eD (.str "0")) aNil)) (v := .d (.tuple [.str "0"])) rfl (aC (f := eTup (aCons (eD .none) aNil)) (v := .d (.tuple [.none])) rfl (aC c aN))))))
  have e2 : eLst false (aCons (eD (.str "x")) (aCons (eDic0 false) (aCons (eTup aNil) (aCons (eTup (aCons (eD (.bool true)) aNil)) (aCons (eTup (aCons (eD (.str "0")) aNil)) (aCons (eTup (aCons (eD .none) aNil)) (aCons (eCallN 1 g__law_deep (aCons (eVar 0) aNil)) aNil))))))) [some (.loc 0), some (.d (.tuple Ns)), some (.d (.int z)), some (.d (.list Rw)), some (.d (.tuple G)), some (.d (.tuple Lt)), some (.d (.tuple Dr)), some (.d (.list T)), none, none, none, none, none, none, none, none, none] (m :: R) = .ok (.d (.list [.str "x", .dict [], .tuple [], .tuple [.bool true], .tuple [.str "0"], .tuple [.none], dp])) (m' :: R) := by
    rw [ap_eLst, A, bind_ok]
    rfl
  rw [ap_iSeq, ap_eBin, show eVar 7 [some (.loc 0), some (.d (.tuple Ns)), some (.d (.int z)), some (.d (.list Rw)), some (.d (.tuple G)), some (.d (.tuple Lt)), some (.d (.tuple Dr)), some (.d (.list T)), none, none, none, none, none, none, none, none, none] (m :: R) = .ok (.d (.list T)) (m :: R) from rfl, bind_ok, e2, bind_ok, add_lists (by simp; omega)]
  rfl
theorem starts_lc : ∀ (xs acc : List D) (m : MO), IsHand m → acc.length + xs.length ≤ 1000 → ∃ (ys : List Int) (m' : MO), IsHand m' ∧ ys.length = xs.length ∧ (∀ y ∈ ys, 0 ≤ y ∧ y ≤ 1000) ∧ lcL (gN 15) tYesD l4__law_is_right [some (.loc 0), some (.d (.tuple Ns)), some (.d (.int z)), some (.d (.list Rw)), some (.d (.tuple G)), some (.d (.tuple Lt)), some (.d (.tuple Dr)), some (.d (.list T)), y8, none, none, none, none, none, none, none, none] xs acc (m :: R) = .ok (acc ++ iD ys) (m' :: R) := by
  intro xs
  induction xs with
  | nil => exact fun acc m H _ => ⟨[], m, H, rfl, by simp, by simp [iD]⟩
  | cons x xs ih =>
    intro acc m H hb
    have hb' : acc.length + (xs.length + 1) ≤ 1000 := hb
    obtain ⟨y, m0, hy, H0, e0⟩ := some_ok (xs := [.int 3, .int 1001]) (R := R) (by simp) (by simp) H
    obtain ⟨tp, rfl, t0, t1⟩ : ∃ u : Int, y = .int u ∧ 1 ≤ u ∧ u ≤ 1001 := by
      simp at hy
      rcases hy with rfl | rfl <;> exact ⟨_, rfl, by decide, by decide⟩
    obtain ⟨r, m1, r0, r1, H1, e1⟩ := draw_ok tp m0 R (by omega) (by omega) H0
    obtain ⟨ys, m', H', l', h', e⟩ := ih (acc ++ [.int r]) m1 H1 (by simp; omega)
    refine ⟨r :: ys, m', H', by simp [l'], fun v hv => ?_, ?_⟩
    · rcases List.mem_cons.mp hv with rfl | hv
      · omega
      · exact h' v hv
    have hs : acc.length < sizeLine := Nat.lt_of_lt_of_le (by omega) (line1000 (Nat.le_refl 1000))
    have el : l4__law_is_right [some (.loc 0), some (.d (.tuple Ns)), some (.d (.int z)), some (.d (.list Rw)), some (.d (.tuple G)), some (.d (.tuple Lt)), some (.d (.tuple Dr)), some (.d (.list T)), y8, none, none, none, none, none, none, some (.d x), none] (m :: R) = .ok (.d (.int r)) (m1 :: R) := by
      simp [l4__law_is_right, e0, e1]
    unfold lcL
    simp only [ap_gN, List.set_cons_succ, List.set_cons_zero, ap_tYesD, noX_ok, bind_ok, if_true, el, fr_d, hs]
    rw [e]
    simp [iD]
theorem t7_ok {r : Int} {X ys : List D} {m1 : MO} (e : g__law_draw [.loc 0, .d (.int 12)] (m :: R) = .ok (.d (.int r)) (m1 :: R)) (hr : 0 ≤ r ∧ r < 12) (hX : rangeD 0 (1 + r) = X) (lc : lcL (gN 15) tYesD l4__law_is_right [some (.loc 0), some (.d (.tuple Ns)), some (.d (.int z)), some (.d (.list Rw)), some (.d (.tuple G)), some (.d (.tuple Lt)), some (.d (.tuple Dr)), some (.d (.list T)), y8, none, none, none, none, none, none, none, none] X [] (m1 :: R) = .ok ys (m' :: R)) : t7__law_is_right [some (.loc 0), some (.d (.tuple Ns)), some (.d (.int z)), some (.d (.list Rw)), some (.d (.tuple G)), some (.d (.tuple Lt)), some (.d (.tuple Dr)), some (.d (.list T)), y8, none, none, none, none, none, none, none, none] (m :: R) = .nx [some (.loc 0), some (.d (.tuple Ns)), some (.d (.int z)), some (.d (.list Rw)), some (.d (.tuple G)), some (.d (.tuple Lt)), some (.d (.tuple Dr)), some (.d (.list T)), y8, some (.d (.tuple ys)), none, none, none, none, none, none, none] (m' :: R) := by
  have a : aCons (eBin (oAdd false) (eD (.int 1)) (eCallN 2 g__law_draw (aCons (eVar 0) (aCons (eD (.int 12)) aNil)))) aNil [some (.loc 0), some (.d (.tuple Ns)), some (.d (.int z)), some (.d (.list Rw)), some (.d (.tuple G)), some (.d (.tuple Lt)), some (.d (.tuple Dr)), some (.d (.list T)), y8, none, none, none, none, none, none, none, none] (m :: R) = .ok [.d (.int (1 + r))] (m1 :: R) := by simp [e]
  have it := iRange_1 a (by omega) (by omega)
  rw [hX] at it
  rw [t7__law_is_right, ap_sSet, ap_eCall, ap_aCons, ap_eLc, it, bind_ok]
  simp [wipeE, lc, fTuple]
theorem t8_ok (h : g__law_work [.d (.tuple St), .d (.int z)] S = .ok (.d (.tuple W)) S) : t8__law_is_right [some (.loc 0), some (.d (.tuple Ns)), some (.d (.int z)), some (.d (.list Rw)), some (.d (.tuple G)), some (.d (.tuple Lt)), some (.d (.tuple Dr)), some (.d (.list T)), y8, some (.d (.tuple St)), none, none, none, none, none, none, none] S = .nx [some (.loc 0), some (.d (.tuple Ns)), some (.d (.int z)), some (.d (.list Rw)), some (.d (.tuple G)), some (.d (.tuple Lt)), some (.d (.tuple Dr)), some (.d (.list T)), y8, some (.d (.tuple St)), some (.d (.tuple W)), none, none, none, none, none, none] S := by
  rw [t8__law_is_right, ap_sSet, call2k (e1 := eVar 9) (e2 := eVar 2) rfl rfl h]
  rfl
theorem t9_ok (h : g_at_work [.d (.tuple St), .d (.int z)] S = .ok (.d (.tuple W)) S) (q : oNe (.d (.list [.tuple W, .tuple W])) (.d (.list [.tuple W, .tuple W])) S = .ok (.d (.bool false)) S) : t9__law_is_right [some (.loc 0), some (.d (.tuple Ns)), some (.d (.int z)), some (.d (.list Rw)), some (.d (.tuple G)), some (.d (.tuple Lt)), some (.d (.tuple Dr)), some (.d (.list T)), y8, some (.d (.tuple St)), some (.d (.tuple W)), none, none, none, none, none, none] S = .nx [some (.loc 0), some (.d (.tuple Ns)), some (.d (.int z)), some (.d (.list Rw)), some (.d (.tuple G)), some (.d (.tuple Lt)), some (.d (.tuple Dr)), some (.d (.list T)), y8, some (.d (.tuple St)), some (.d (.tuple W)), none, none, none, none, none, none] S := by
  have e1 := two_ev (ρ := [some (.loc 0), some (.d (.tuple Ns)), some (.d (.int z)), some (.d (.list Rw)), some (.d (.tuple G)), some (.d (.tuple Lt)), some (.d (.tuple Dr)), some (.d (.list T)), y8, some (.d (.tuple St)), some (.d (.tuple W)), none, none, none, none, none, none]) (i := 9) rfl rfl h
  have e2 : eLst false (aCons (eVar 10) (aCons (eVar 10) aNil)) [some (.loc 0), some (.d (.tuple Ns)), some (.d (.int z)), some (.d (.list Rw)), some (.d (.tuple G)), some (.d (.tuple Lt)), some (.d (.tuple Dr)), some (.d (.list T)), y8, some (.d (.tuple St)), some (.d (.tuple W)), none, none, none, none, none, none] S = .ok (.d (.list [.tuple W, .tuple W])) S := rfl
  rw [t9__law_is_right, ap_sIf, ap_tOf, ap_eBin, e1, bind_ok, e2, bind_ok, q]
  rfl
theorem t10_ok (h : g__law_latest [.d (.tuple Ns), .d (.int z)] S = .ok (.d (.tuple Be)) S) : t10__law_is_right [some (.loc 0), some (.d (.tuple Ns)), some (.d (.int z)), some (.d (.list Rw)), some (.d (.tuple G)), some (.d (.tuple Lt)), some (.d (.tuple Dr)), some (.d (.list T)), y8, some (.d (.tuple St)), some (.d (.tuple W)), none, none, none, none, none, none] S = .nx [some (.loc 0), some (.d (.tuple Ns)), some (.d (.int z)), some (.d (.list Rw)), some (.d (.tuple G)), some (.d (.tuple Lt)), some (.d (.tuple Dr)), some (.d (.list T)), y8, some (.d (.tuple St)), some (.d (.tuple W)), some (.d (.tuple Be)), none, none, none, none, none] S := by
  rw [t10__law_is_right, ap_sSet, call2k (e1 := eVar 1) (e2 := eVar 2) rfl rfl h]
  rfl
theorem more_lc : ∀ (xs : List Int) (acc : List D) (m : MO), IsHand m → acc.length + xs.length ≤ 1000 → ∃ (ys : List Int) (m' : MO), IsHand m' ∧ ys.length = xs.length ∧ (∀ i, i < xs.length → atN xs i ≤ atN ys i ∧ atN ys i ≤ atN xs i + 2) ∧ lcL (gN 16) tYesD l5__law_is_right [some (.loc 0), some (.d (.tuple Ns)), some (.d (.int z)), some (.d (.list Rw)), some (.d (.tuple G)), some (.d (.tuple Lt)), some (.d (.tuple Dr)), some (.d (.list T)), y8, some (.d (.tuple St)), some (.d (.tuple W)), some (.d (.tuple Be)), none, none, none, none, none] (iD xs) acc (m :: R) = .ok (acc ++ iD ys) (m' :: R) := by
  intro xs
  induction xs with
  | nil => exact fun acc m H _ => ⟨[], m, H, rfl, by simp, by simp [iD, lcL]⟩
  | cons x xs ih =>
    intro acc m H hb
    have hb' : acc.length + (xs.length + 1) ≤ 1000 := hb
    obtain ⟨r, m1, r0, r1, H1, e1⟩ := draw_ok 3 m R (by omega) (by omega) H
    obtain ⟨ys, m', H', l', h', e⟩ := ih (acc ++ [.int (x + r)]) m1 H1 (by simp; omega)
    refine ⟨(x + r) :: ys, m', H', by simp [l'], fun i hi => ?_, ?_⟩
    · cases i with
      | zero => simp [atN]; omega
      | succ i => simpa [atN] using h' i (by simpa using hi)
    have hs : acc.length < sizeLine := Nat.lt_of_lt_of_le (by omega) (line1000 (Nat.le_refl 1000))
    have el : l5__law_is_right [some (.loc 0), some (.d (.tuple Ns)), some (.d (.int z)), some (.d (.list Rw)), some (.d (.tuple G)), some (.d (.tuple Lt)), some (.d (.tuple Dr)), some (.d (.list T)), y8, some (.d (.tuple St)), some (.d (.tuple W)), some (.d (.tuple Be)), none, none, none, none, some (.d (.int x))] (m :: R) = .ok (.d (.int (x + r))) (m1 :: R) := by
      simp [l5__law_is_right, e1]
    rw [show iD (x :: xs) = .int x :: iD xs from rfl]
    unfold lcL
    simp only [ap_gN, List.set_cons_succ, List.set_cons_zero, ap_tYesD, noX_ok, bind_ok, if_true, el, fr_d, hs]
    rw [e]
    simp [iD]
theorem t11_ok {ys : List D} (lc : lcL (gN 16) tYesD l5__law_is_right [some (.loc 0), some (.d (.tuple Ns)), some (.d (.int z)), some (.d (.list Rw)), some (.d (.tuple G)), some (.d (.tuple Lt)), some (.d (.tuple Dr)), some (.d (.list T)), y8, some (.d (.tuple St)), some (.d (.tuple W)), some (.d (.tuple Be)), none, none, none, none, none] Be [] (m :: R) = .ok ys (m' :: R)) : t11__law_is_right [some (.loc 0), some (.d (.tuple Ns)), some (.d (.int z)), some (.d (.list Rw)), some (.d (.tuple G)), some (.d (.tuple Lt)), some (.d (.tuple Dr)), some (.d (.list T)), y8, some (.d (.tuple St)), some (.d (.tuple W)), some (.d (.tuple Be)), none, none, none, none, none] (m :: R) = .nx [some (.loc 0), some (.d (.tuple Ns)), some (.d (.int z)), some (.d (.list Rw)), some (.d (.tuple G)), some (.d (.tuple Lt)), some (.d (.tuple Dr)), some (.d (.list T)), y8, some (.d (.tuple St)), some (.d (.tuple W)), some (.d (.tuple Be)), some (.d (.tuple ys)), none, none, none, none] (m' :: R) := by
  rw [t11__law_is_right, ap_sSet, ap_eCall, ap_aCons, ap_eLc, show iSeq (eVar 11) [some (.loc 0), some (.d (.tuple Ns)), some (.d (.int z)), some (.d (.list Rw)), some (.d (.tuple G)), some (.d (.tuple Lt)), some (.d (.tuple Dr)), some (.d (.list T)), y8, some (.d (.tuple St)), some (.d (.tuple W)), some (.d (.tuple Be)), none, none, none, none, none] (m :: R) = .ok Be (m :: R) from rfl, bind_ok]
  simp [wipeE, lc, fTuple]
theorem l6_ok {F V : List D} {a b : Int} (w : g__law_work [.d (.tuple F), .d (.int z)] S = .ok (.d (.tuple V)) S) (s1 : fSumX [.d (.tuple V)] S = .ok (.d (.int a)) S) (s2 : fSumX [.d (.tuple Ns)] S = .ok (.d (.int b)) S) (o : g_over_hours [.d (.tuple Ns), .d (.tuple F), .d (.int z)] S = .ok (.d (.int (a - b))) S) : l6__law_is_right [some (.loc 0), some (.d (.tuple Ns)), some (.d (.int z)), some (.d (.list Rw)), some (.d (.tuple G)), some (.d (.tuple Lt)), some (.d (.tuple Dr)), some (.d (.list T)), y8, some (.d (.tuple St)), some (.d (.tuple W)), some (.d (.tuple Be)), some (.d (.tuple Mo)), some (.d (.tuple F)), y14, none, none] S = .nx [some (.loc 0), some (.d (.tuple Ns)), some (.d (.int z)), some (.d (.list Rw)), some (.d (.tuple G)), some (.d (.tuple Lt)), some (.d (.tuple Dr)), some (.d (.list T)), y8, some (.d (.tuple St)), some (.d (.tuple W)), some (.d (.tuple Be)), some (.d (.tuple Mo)), some (.d (.tuple F)), some (.d (.int (a - b))), none, none] S := by
  have c1 := call2k (ρ := [some (.loc 0), some (.d (.tuple Ns)), some (.d (.int z)), some (.d (.list Rw)), some (.d (.tuple G)), some (.d (.tuple Lt)), some (.d (.tuple Dr)), some (.d (.list T)), y8, some (.d (.tuple St)), some (.d (.tuple W)), some (.d (.tuple Be)), some (.d (.tuple Mo)), some (.d (.tuple F)), y14, none, none]) (e1 := eVar 13) (e2 := eVar 2) rfl rfl w
  have e1 : sSet 14 (eBin oSub (eCall fSumX (aCons (eCallN 2 g__law_work (aCons (eVar 13) (aCons (eVar 2) aNil))) aNil)) (eCall fSumX (aCons (eVar 1) aNil))) [some (.loc 0), some (.d (.tuple Ns)), some (.d (.int z)), some (.d (.list Rw)), some (.d (.tuple G)), some (.d (.tuple Lt)), some (.d (.tuple Dr)), some (.d (.list T)), y8, some (.d (.tuple St)), some (.d (.tuple W)), some (.d (.tuple Be)), some (.d (.tuple Mo)), some (.d (.tuple F)), y14, none, none] S = .nx [some (.loc 0), some (.d (.tuple Ns)), some (.d (.int z)), some (.d (.list Rw)), some (.d (.tuple G)), some (.d (.tuple Lt)), some (.d (.tuple Dr)), some (.d (.list T)), y8, some (.d (.tuple St)), some (.d (.tuple W)), some (.d (.tuple Be)), some (.d (.tuple Mo)), some (.d (.tuple F)), some (.d (.int (a - b))), none, none] S := by
    rw [ap_sSet, ap_eBin, ap_eCall, aC c1 aN, bind_ok, s1, bind_ok, ap_eCall, aC (f := eVar 1) rfl aN, bind_ok, s2, bind_ok]
    simp
  have c3 : eCallN 3 g_over_hours (aCons (eVar 1) (aCons (eVar 13) (aCons (eVar 2) aNil))) [some (.loc 0), some (.d (.tuple Ns)), some (.d (.int z)), some (.d (.list Rw)), some (.d (.tuple G)), some (.d (.tuple Lt)), some (.d (.tuple Dr)), some (.d (.list T)), y8, some (.d (.tuple St)), some (.d (.tuple W)), some (.d (.tuple Be)), some (.d (.tuple Mo)), some (.d (.tuple F)), some (.d (.int (a - b))), none, none] S = .ok (.d (.int (a - b))) S := by
    rw [ap_eCallN, aC (f := eVar 1) rfl (aC (f := eVar 13) rfl (aC (f := eVar 2) rfl aN)), bind_ok, if_pos (show [Vl.d (.tuple Ns), Vl.d (.tuple F), Vl.d (.int z)].length = 3 from rfl), o]
  have e2 : eLst false (aCons (eCallN 3 g_over_hours (aCons (eVar 1) (aCons (eVar 13) (aCons (eVar 2) aNil)))) (aCons (eCallN 3 g_over_hours (aCons (eVar 1) (aCons (eVar 13) (aCons (eVar 2) aNil)))) aNil)) [some (.loc 0), some (.d (.tuple Ns)), some (.d (.int z)), some (.d (.list Rw)), some (.d (.tuple G)), some (.d (.tuple Lt)), some (.d (.tuple Dr)), some (.d (.list T)), y8, some (.d (.tuple St)), some (.d (.tuple W)), some (.d (.tuple Be)), some (.d (.tuple Mo)), some (.d (.tuple F)), some (.d (.int (a - b))), none, none] S = .ok (.d (.list [.int (a - b), .int (a - b)])) S := by
    rw [ap_eLst, aC c3 (aC c3 aN), bind_ok]
    rfl
  have e3 : eLst false (aCons (eVar 14) (aCons (eVar 14) aNil)) [some (.loc 0), some (.d (.tuple Ns)), some (.d (.int z)), some (.d (.list Rw)), some (.d (.tuple G)), some (.d (.tuple Lt)), some (.d (.tuple Dr)), some (.d (.list T)), y8, some (.d (.tuple St)), some (.d (.tuple W)), some (.d (.tuple Be)), some (.d (.tuple Mo)), some (.d (.tuple F)), some (.d (.int (a - b))), none, none] S = .ok (.d (.list [.int (a - b), .int (a - b)])) S := rfl
  have q : oNe (.d (.list [.int (a - b), .int (a - b)])) (.d (.list [.int (a - b), .int (a - b)])) S = .ok (.d (.bool false)) S := oNe_same (shal_ints [a - b, a - b])
  rw [l6__law_is_right, ap_sCons, e1, seq_nx, ap_sIf, ap_tOf, ap_eBin, e2, bind_ok, e3, bind_ok, q]
  rfl
theorem forL_two {g : Tg} {b : Sv} {x y : D} {ρ ρ1 ρ1' ρ2 ρ2' : Env} {S S1 S2 : Store} (g1 : g (.d x) ρ = some ρ1) (b1 : b ρ1 S = .nx ρ1' S1) (g2 : g (.d y) ρ1' = some ρ2) (b2 : b ρ2 S1 = .nx ρ2' S2) : forL g b [x, y] ρ S = .nx ρ2' S2 := by
  simp only [ap_forL1, g1, b1, g2, b2]
  rfl
theorem t12_ok {V1 V2 : List D} {a1 a2 b : Int} (w1 : g__law_work [.d (.tuple Be), .d (.int z)] S = .ok (.d (.tuple V1)) S) (s1 : fSumX [.d (.tuple V1)] S = .ok (.d (.int a1)) S) (w2 : g__law_work [.d (.tuple Mo), .d (.int z)] S = .ok (.d (.tuple V2)) S) (s2 : fSumX [.d (.tuple V2)] S = .ok (.d (.int a2)) S) (s3 : fSumX [.d (.tuple Ns)] S = .ok (.d (.int b)) S) (o1 : g_over_hours [.d (.tuple Ns), .d (.tuple Be), .d (.int z)] S = .ok (.d (.int (a1 - b))) S) (o2 : g_over_hours [.d (.tuple Ns), .d (.tuple Mo), .d (.int z)] S = .ok (.d (.int (a2 - b))) S) : t12__law_is_right [some (.loc 0), some (.d (.tuple Ns)), some (.d (.int z)), some (.d (.list Rw)), some (.d (.tuple G)), some (.d (.tuple Lt)), some (.d (.tuple Dr)), some (.d (.list T)), y8, some (.d (.tuple St)), some (.d (.tuple W)), some (.d (.tuple Be)), some (.d (.tuple Mo)), none, none, none, none] S = .nx [some (.loc 0), some (.d (.tuple Ns)), some (.d (.int z)), some (.d (.list Rw)), some (.d (.tuple G)), some (.d (.tuple Lt)), some (.d (.tuple Dr)), some (.d (.list T)), y8, some (.d (.tuple St)), some (.d (.tuple W)), some (.d (.tuple Be)), some (.d (.tuple Mo)), some (.d (.tuple Mo)), some (.d (.int (a2 - b))), none, none] S := by
  have l1 := l6_ok (Rw := Rw) (G := G) (Lt := Lt) (Dr := Dr) (T := T) (St := St) (W := W) (Be := Be) (Mo := Mo) (y8 := y8) (y14 := none) w1 s1 s3 o1
  have l2 := l6_ok (Rw := Rw) (G := G) (Lt := Lt) (Dr := Dr) (T := T) (St := St) (W := W) (Be := Be) (Mo := Mo) (y8 := y8) (y14 := some (.d (.int (a1 - b)))) w2 s2 s3 o2
  have tp : eTup (aCons (eVar 11) (aCons (eVar 12) aNil)) [some (.loc 0), some (.d (.tuple Ns)), some (.d (.int z)), some (.d (.list Rw)), some (.d (.tuple G)), some (.d (.tuple Lt)), some (.d (.tuple Dr)), some (.d (.list T)), y8, some (.d (.tuple St)), some (.d (.tuple W)), some (.d (.tuple Be)), some (.d (.tuple Mo)), none, none, none, none] S = .ok (.d (.tuple [.tuple Be, .tuple Mo])) S := by
    rw [ap_eTup, aC (f := eVar 11) rfl (aC (f := eVar 12) rfl aN), bind_ok]
    rfl
  have it : iSeq (eTup (aCons (eVar 11) (aCons (eVar 12) aNil))) [some (.loc 0), some (.d (.tuple Ns)), some (.d (.int z)), some (.d (.list Rw)), some (.d (.tuple G)), some (.d (.tuple Lt)), some (.d (.tuple Dr)), some (.d (.list T)), y8, some (.d (.tuple St)), some (.d (.tuple W)), some (.d (.tuple Be)), some (.d (.tuple Mo)), none, none, none, none] S = .ok [.tuple Be, .tuple Mo] S := by
    rw [ap_iSeq, tp]
    rfl
  rw [t12__law_is_right, ap_sFor, it, st_ok]
  exact forL_two rfl l1 rfl l2
theorem t13_ok {V1 : List D} {a1 b : Int} (w1 : g__law_work [.d (.tuple Be), .d (.int z)] S = .ok (.d (.tuple V1)) S) (s1 : fSumX [.d (.tuple V1)] S = .ok (.d (.int a1)) S) (s3 : fSumX [.d (.tuple Ns)] S = .ok (.d (.int b)) S) (le : g_least_starts [.d (.tuple Ns), .d (.int z)] S = .ok (.d (.tuple Be)) S) (o1 : g_over_hours [.d (.tuple Ns), .d (.tuple Be), .d (.int z)] S = .ok (.d (.int (a1 - b))) S) : t13__law_is_right [some (.loc 0), some (.d (.tuple Ns)), some (.d (.int z)), some (.d (.list Rw)), some (.d (.tuple G)), some (.d (.tuple Lt)), some (.d (.tuple Dr)), some (.d (.list T)), y8, some (.d (.tuple St)), some (.d (.tuple W)), some (.d (.tuple Be)), some (.d (.tuple Mo)), y13, y14, none, none] S = .ret (.d (.bool true)) S := by
  have c0 := call2k (ρ := [some (.loc 0), some (.d (.tuple Ns)), some (.d (.int z)), some (.d (.list Rw)), some (.d (.tuple G)), some (.d (.tuple Lt)), some (.d (.tuple Dr)), some (.d (.list T)), y8, some (.d (.tuple St)), some (.d (.tuple W)), some (.d (.tuple Be)), some (.d (.tuple Mo)), y13, y14, none, none]) (e1 := eVar 1) (e2 := eVar 2) rfl rfl le
  have c3 : eCallN 3 g_over_hours (aCons (eVar 1) (aCons (eCallN 2 g_least_starts (aCons (eVar 1) (aCons (eVar 2) aNil))) (aCons (eVar 2) aNil))) [some (.loc 0), some (.d (.tuple Ns)), some (.d (.int z)), some (.d (.list Rw)), some (.d (.tuple G)), some (.d (.tuple Lt)), some (.d (.tuple Dr)), some (.d (.list T)), y8, some (.d (.tuple St)), some (.d (.tuple W)), some (.d (.tuple Be)), some (.d (.tuple Mo)), y13, y14, none, none] S = .ok (.d (.int (a1 - b))) S := by
    rw [ap_eCallN, aC (f := eVar 1) rfl (aC c0 (aC (f := eVar 2) rfl aN)), bind_ok, if_pos (show [Vl.d (.tuple Ns), Vl.d (.tuple Be), Vl.d (.int z)].length = 3 from rfl), o1]
  have c1 := call2k (ρ := [some (.loc 0), some (.d (.tuple Ns)), some (.d (.int z)), some (.d (.list Rw)), some (.d (.tuple G)), some (.d (.tuple Lt)), some (.d (.tuple Dr)), some (.d (.list T)), y8, some (.d (.tuple St)), some (.d (.tuple W)), some (.d (.tuple Be)), some (.d (.tuple Mo)), y13, y14, none, none]) (e1 := eVar 11) (e2 := eVar 2) rfl rfl w1
  have e1 : eBin oSub (eCall fSumX (aCons (eCallN 2 g__law_work (aCons (eVar 11) (aCons (eVar 2) aNil))) aNil)) (eCall fSumX (aCons (eVar 1) aNil)) [some (.loc 0), some (.d (.tuple Ns)), some (.d (.int z)), some (.d (.list Rw)), some (.d (.tuple G)), some (.d (.tuple Lt)), some (.d (.tuple Dr)), some (.d (.list T)), y8, some (.d (.tuple St)), some (.d (.tuple W)), some (.d (.tuple Be)), some (.d (.tuple Mo)), y13, y14, none, none] S = .ok (.d (.int (a1 - b))) S := by
    rw [ap_eBin, ap_eCall, aC c1 aN, bind_ok, s1, bind_ok, ap_eCall, aC (f := eVar 1) rfl aN, bind_ok, s3, bind_ok]
    simp
  have q : oEq (.d (.int (a1 - b))) (.d (.int (a1 - b))) S = .ok (.d (.bool true)) S := oEq_same rfl
  rw [t13__law_is_right, ap_sRet, ap_eBin, c3, bind_ok, e1, bind_ok, q]
  rfl
end
set_option exponentiation.threshold 5000
theorem insU_len {x : Int} : ∀ (ys : List Int), (insU x ys).length ≤ ys.length + 1 := by
  intro ys
  induction ys with
  | nil => simp [insU]
  | cons y ys ih =>
    unfold insU
    split
    · simp
    · split <;> simp <;> omega
theorem sortU_len : ∀ (xs : List Int), (sortU xs).length ≤ xs.length := by
  intro xs
  induction xs with
  | nil => simp [sortU]
  | cons x xs ih =>
    unfold sortU
    have := insU_len (x := x) (sortU xs)
    simp
    omega
theorem ap_mem {L hi : Nat} : ∀ (l : List Nat) (lo : Nat), Ap L hi lo l → ∀ x ∈ l, x < hi := by
  intro l
  induction l with
  | nil => intro _ _ x hx; cases hx
  | cons y ys ih =>
    intro lo p x hx
    rcases List.mem_cons.mp hx with rfl | hx
    · exact p.2.1
    · exact ih _ p.2.2 x hx
theorem win_le {f g : List Int} (hl : f.length = g.length) (h : ∀ i, i < f.length → atN f i ≤ atN g i) {a : Nat} : ∀ b, a ≤ b → b ≤ f.length → pre f b - pre f a ≤ pre g b - pre g a := by
  intro b
  induction b with
  | zero => intro h1 _; rw [show a = 0 by omega]; omega
  | succ b ih =>
    intro h1 h2
    by_cases e : a = b + 1
    · subst e; omega
    · have := ih (by omega) (by omega)
      rw [pre_succ (by omega), pre_succ (by omega)]
      have := h b (by omega)
      omega
section
variable {N : List Int} {z : Int} {L : Nat} {S : Store} {l : List Nat}
theorem hour_lc (h : ∀ x ∈ l, x < N.length) (hl : l.length ≤ 900) : lcL (gN 15) tYesD l0__law_is_right [some (.loc 0), some (.d (nD N)), some (.d (.int z)), none, none, some (.d (lotD l)), none, none, none, none, none, none, none, none, none, none, none] (iD (cst l)) [] S = .ok (iD (l.map fun i => atN N i)) S := by
  have lc := lcL_map (tg := gN 15) (f := l0__law_is_right) (ρ := [some (.loc 0), some (.d (nD N)), some (.d (.int z)), none, none, some (.d (lotD l)), none, none, none, none, none, none, none, none, none, none, none]) (S := S) (fun i : Nat => PyData.int i) (fun i => .int (atN N i)) l (fun i hi => ⟨_, rfl, by
    have a := at_iD (h i hi)
    have o : oIx (.d (nD N)) (.d (.int (i : Nat))) S = .ok (.d (.int (atN N i))) S := by
      simp only [oIx, view_d, a]
      rfl
    generalize nD N = C at *
    generalize lotD l = Q at *
    generalize ((i : Nat) : Int) = i' at *
    simp [l0__law_is_right, o]⟩) (by omega)
  rw [show l.map (fun i : Nat => PyData.int i) = iD (cst l) by unfold iD cst; rw [List.map_map]; rfl, show l.map (fun i => PyData.int (atN N i)) = iD (l.map fun i => atN N i) by unfold iD; rw [List.map_map]; rfl] at lc
  exact lc
theorem row_el (h : ∀ x ∈ l, x < N.length) (hl : l.length ≤ 900) : l1__law_is_right [some (.loc 0), some (.d (nD N)), some (.d (.int z)), none, none, some (.d (lotD l)), none, none, none, none, none, none, none, none, none, none, none] S = .ok (.d (pqD (pairOf N l))) S := by
  have lc := hour_lc (z := z) (S := S) h hl
  have e1 : eLc false (iSeq (eVar 5)) (gN 15) tYesD l0__law_is_right [15] [some (.loc 0), some (.d (nD N)), some (.d (.int z)), none, none, some (.d (lotD l)), none, none, none, none, none, none, none, none, none, none, none] S = .ok (.d (.list (iD (l.map fun i => atN N i)))) S := by
    rw [ap_eLc, show iSeq (eVar 5) [some (.loc 0), some (.d (nD N)), some (.d (.int z)), none, none, some (.d (lotD l)), none, none, none, none, none, none, none, none, none, none, none] S = .ok (iD (cst l)) S from rfl, bind_ok]
    rw [show wipeE [some (.loc 0), some (.d (nD N)), some (.d (.int z)), none, none, some (.d (lotD l)), none, none, none, none, none, none, none, none, none, none, none] [15] = [some (.loc 0), some (.d (nD N)), some (.d (.int z)), none, none, some (.d (lotD l)), none, none, none, none, none, none, none, none, none, none, none] from rfl, lc, bind_ok]
    rfl
  have sm : fSumX [.d (.list (iD (l.map fun i => atN N i)))] S = .ok (.d (.int (wt N l))) S := sumX_list _ _
  have e2 : eBin oSub (eD (.int 0)) (eCall fSumX (aCons (eLc false (iSeq (eVar 5)) (gN 15) tYesD l0__law_is_right [15]) aNil)) [some (.loc 0), some (.d (nD N)), some (.d (.int z)), none, none, some (.d (lotD l)), none, none, none, none, none, none, none, none, none, none, none] S = .ok (.d (.int (0 - wt N l))) S := by
    rw [ap_eBin, ap_eD, bind_ok, ap_eCall, aC e1 aN, bind_ok, sm, bind_ok]
    simp
  rw [l1__law_is_right, ap_eTup, aC e2 (aC (f := eVar 5) rfl aN), bind_ok]
  rfl
theorem rows_lc (hL : 1 ≤ L) (hn : N.length ≤ 10) : lcL (gN 5) tYesD l1__law_is_right [some (.loc 0), some (.d (nD N)), some (.d (.int z)), none, none, none, none, none, none, none, none, none, none, none, none, none, none] ((lotsF L N.length).map lotD) [] S = .ok (((lotsF L N.length).map (pairOf N)).map pqD) S := by
  have p2 : 2 ^ N.length ≤ 2 ^ 10 := Nat.pow_le_pow_right (by omega) (by omega)
  have n2 := lots_len (L := L) N.length
  have lc := lcB_map (tg := gN 5) (f := l1__law_is_right) (ρ := [some (.loc 0), some (.d (nD N)), some (.d (.int z)), none, none, none, none, none, none, none, none, none, none, none, none, none, none]) (S := S) lotD (fun l => pqD (pairOf N l)) (lotsF L N.length) (fun l hl => ⟨[some (.loc 0), some (.d (nD N)), some (.d (.int z)), none, none, some (.d (lotD l)), none, none, none, none, none, none, none, none, none, none, none], rfl, by
    rw [lots_mem hL] at hl
    have := lot_lenG hL l 0 hl
    exact row_el (ap_mem l 0 hl) (by omega)⟩) (by omega)
  rw [List.map_map]
  exact lc
end
theorem things_loop {N : List Int} {L : Nat} {z : Int} {S : Store} {Rw G Lt Dr T : List D} (hz : z = (L : Int)) (hL : 1 ≤ L ∧ L ≤ 24) (h : OkN N) : ∀ (xs : List D) (y8 : Option Vl), (∀ d ∈ xs, ∀ ds, d = .tuple ds → ds.length ≤ 900) → ∃ z8, forL (gN 8) l3__law_is_right xs [some (.loc 0), some (.d (nD N)), some (.d (.int z)), some (.d (.list Rw)), some (.d (.tuple G)), some (.d (.tuple Lt)), some (.d (.tuple Dr)), some (.d (.list T)), y8, none, none, none, none, none, none, none, none] S = .nx [some (.loc 0), some (.d (nD N)), some (.d (.int z)), some (.d (.list Rw)), some (.d (.tuple G)), some (.d (.tuple Lt)), some (.d (.tuple Dr)), some (.d (.list T)), z8, none, none, none, none, none, none, none, none] S := by
  intro xs
  induction xs with
  | nil => exact fun y8 _ => ⟨y8, rfl⟩
  | cons d xs ih =>
    intro y8 hs
    obtain ⟨z8, e⟩ := ih (some (.d d)) (fun q hq => hs q (by simp [hq]))
    refine ⟨z8, ?_⟩
    have st := l3_ok (Rw := Rw) (G := G) (Lt := Lt) (Dr := Dr) (T := T) (aflag_ok hz hL h d (hs d (by simp)) S) (lflag_ok h d (hs d (by simp)) S)
    rw [ap_forL1, ap_gN]
    simp only [List.set_cons_succ, List.set_cons_zero]
    rw [st]
    exact e
theorem right_ok {R : Store} {N : List Int} {z : Int} {L : Nat} {m : MO} (hz : z = (L : Int)) (hL : 1 ≤ L ∧ L ≤ 24) (h : OkN N) (hn : N.length ≤ 10) (H : IsHand m) : ∃ m', IsHand m' ∧ g__law_is_right [.loc 0, .d (nD N), .d (.int z)] (m :: R) = .ok (.d (.bool true)) (m' :: R) := by
  have l1 := h.l1
  have l2 := h.l2
  have gi := gr_gi (N := N) hL.1
  have gl := gi.len
  have gb := gr_le (N := N) hL.1 (M := 20) (by omega) (fun x hx => (h.bd x hx).2)
  have ln : ∀ S, fLen [.d (nD N)] S = .ok (.d (.int (N.length : Nat))) S := fun S => Seen.ln (v := .d (nD N)) (.inr rfl)
  obtain ⟨v, l, bst, ea⟩ := apart_ok hz hL.1 hL.2 h (m :: R)
  have lmem := ap_mem l 0 bst.b.ap
  have llen := lot_lenG hL.1 l 0 bst.b.ap
  have a0 := t0_ok (S := m :: R) (ln _) (lots_ok hz hL.1 hn) (rows_lc (L := L) (z := z) hL.1 hn)
  have bp := best_pair (S := m :: R) hL.1 bst
  have a1 := t1_ok (S := m :: R) (Ns := iD N) (z := z) bp
  have a2 := t2_ok (S := m :: R) (Rw := ((lotsF L N.length).map (pairOf N)).map pqD) ea (oNe_same (shal_two (cst l)))
  have p2 : 2 ^ N.length ≤ 2 ^ 10 := Nat.pow_le_pow_right (by omega) (by omega)
  have n2 := lots_len (L := L) N.length
  have e0 : ([] : List Nat) ∈ lotsF L N.length := (lots_mem hL.1 _ _).mpr trivial
  obtain ⟨x, m1, hx, H1, e1⟩ := some_big (v := .d (.list (((lotsF L N.length).map (pairOf N)).map pqD))) (R := R) (fun m => rfl) (by
    intro e
    rw [List.map_eq_nil_iff, List.map_eq_nil_iff] at e
    rw [e] at e0
    cases e0) (by simp; omega) H
  obtain ⟨p, hp, rfl⟩ := List.mem_map.mp hx
  obtain ⟨lt, hlt, rfl⟩ := List.mem_map.mp hp
  rw [lots_mem hL.1] at hlt
  have ltl := lot_lenG hL.1 lt 0 hlt
  have tl : (iD (cst lt)).length ≤ 100 := by rw [iD_len]; simp [cst]; omega
  have a3 := t3_ok (Ns := iD N) (z := z) (G := iD (cst l)) (Lt := iD (cst lt)) (p := .int (0 - wt N lt)) e1
  obtain ⟨r, m2, r0, r1, H2, e2⟩ := draw_ok 4 m1 R (by omega) (by omega) H1
  obtain ⟨ys, m3, H3, yl, lcd⟩ := draws_lc (R := R) (Ns := iD N) (z := z) (Rw := ((lotsF L N.length).map (pairOf N)).map pqD) (G := iD (cst l)) (Lt := iD (cst lt)) (N.length : Int) (by omega) ln (rangeD 0 r) [] m2 H2 (by unfold rangeD; simp; omega)
  have rl : (rangeD 0 r).length = r.toNat := by unfold rangeD; simp
  rw [rl] at yl
  rw [List.nil_append] at lcd
  have a4 := t4_ok e2 ⟨r0, r1⟩ rfl lcd (by omega)
  have sl := sortU_len ys
  have dl : (iD (sortU ys)).length ≤ 100 := by rw [iD_len]; omega
  obtain ⟨T, eT⟩ : ∃ T : List D, ([.tuple (iD (cst l)), .tuple (iD (cst lt)), .tuple (iD (sortU ys)), .list (iD (cst lt)), .tuple (iD (cst lt) ++ [.int (N.length : Nat)]), .tuple (.int (-1) :: iD (cst lt)), .tuple (iD (sortU ys)).reverse, .tuple (iD (sortU ys) ++ iD (sortU ys)), .none, .int 0] : List D) = T := ⟨_, rfl⟩
  have a5 := t5_ok (S := m3 :: R) (z := z) (Rw := ((lotsF L N.length).map (pairOf N)).map pqD) (G := iD (cst l)) (ln _) tl dl
  rw [eT] at a5
  have hT : T.length ≤ 100 := by rw [← eT]; simp
  have gl2 : (iD (cst l)).length ≤ 100 := by rw [iD_len]; simp [cst]; omega
  have sT : ∀ d ∈ T, ∀ ds, d = .tuple ds → ds.length ≤ 900 := by
    rw [← eT]
    intro d hd ds e
    subst e
    simp only [List.mem_cons, List.not_mem_nil, or_false] at hd
    rcases hd with e | e | e | e | e | e | e | e | e | e
    · cases e; omega
    · cases e; omega
    · cases e; omega
    · cases e
    · cases e; simp; omega
    · cases e; simp; omega
    · cases e; simp; omega
    · cases e; simp; omega
    · cases e
    · cases e
  obtain ⟨dp, m4, hdp, H4, e4⟩ := deep_ok (R := R) H3
  have it6 := t6_it (Ns := iD N) (z := z) (Rw := ((lotsF L N.length).map (pairOf N)).map pqD) (G := iD (cst l)) (Lt := iD (cst lt)) (Dr := iD (sortU ys)) hT e4
  obtain ⟨z8, fl⟩ := things_loop (S := m4 :: R) (Rw := ((lotsF L N.length).map (pairOf N)).map pqD) (G := iD (cst l)) (Lt := iD (cst lt)) (Dr := iD (sortU ys)) (T := T) hz hL h (T ++ [.str "x", .dict [], .tuple [], .tuple [.bool true], .tuple [.str "0"], .tuple [.none], dp]) none (fun d hd ds e => by
    rcases List.mem_append.mp hd with hd | hd
    · exact sT d hd ds e
    · subst e
      simp only [List.mem_cons, List.not_mem_nil, or_false] at hd
      rcases hd with e | e | e | e | e | e | e
      · cases e
      · cases e
      · cases e; simp
      · cases e; simp
      · cases e; simp
      · cases e; simp
      · exact hdp.2.1.len ds e.symm)
  obtain ⟨q, m5, q0, q1, H5, e5⟩ := draw_ok 12 m4 R (by omega) (by omega) H4
  have ql : (rangeD 0 (1 + q)).length = (1 + q).toNat := by unfold rangeD; simp
  obtain ⟨F, m6, H6, fl6, fb, lcs⟩ := starts_lc (R := R) (Ns := iD N) (z := z) (Rw := ((lotsF L N.length).map (pairOf N)).map pqD) (G := iD (cst l)) (Lt := iD (cst lt)) (Dr := iD (sortU ys)) (T := T) (y8 := z8) (rangeD 0 (1 + q)) [] m5 H5 (by rw [ql]; simp; omega)
  rw [ql] at fl6
  rw [List.nil_append] at lcs
  have a7 := t7_ok e5 ⟨q0, q1⟩ rfl lcs
  have okF : OkS F := ⟨by omega, by omega, fb⟩
  have a8 := t8_ok (S := m6 :: R) (Ns := iD N) (Rw := ((lotsF L N.length).map (pairOf N)).map pqD) (G := iD (cst l)) (Lt := iD (cst lt)) (Dr := iD (sortU ys)) (T := T) (y8 := z8) (law_work_ok (v := .d (nD F)) (.inr rfl) hz hL.1 (by have := okF.l2; omega))
  have a9 := t9_ok (S := m6 :: R) (Ns := iD N) (Rw := ((lotsF L N.length).map (pairOf N)).map pqD) (G := iD (cst l)) (Lt := iD (cst lt)) (Dr := iD (sortU ys)) (T := T) (y8 := z8) (at_work_ok hz hL okF _) (oNe_same (shal_two (wk L F)))
  have a10 := t10_ok (S := m6 :: R) (Rw := ((lotsF L N.length).map (pairOf N)).map pqD) (G := iD (cst l)) (Lt := iD (cst lt)) (Dr := iD (sortU ys)) (T := T) (St := iD F) (W := iD (wk L F)) (y8 := z8) (latest_ok (N := N) hz hL.1 (by omega) (m6 :: R))
  obtain ⟨M, m7, H7, ml, mb, lcm⟩ := more_lc (R := R) (Ns := iD N) (z := z) (Rw := ((lotsF L N.length).map (pairOf N)).map pqD) (G := iD (cst l)) (Lt := iD (cst lt)) (Dr := iD (sortU ys)) (T := T) (St := iD F) (W := iD (wk L F)) (Be := iD (gr L N)) (y8 := z8) (gr L N) [] m6 H6 (by simp; omega)
  rw [List.nil_append] at lcm
  have a11 := t11_ok lcm
  have fe := gr_fe (N := N) hL.1
  have okB : OkS (gr L N) := ⟨by omega, by omega, fun x hx => ⟨gi.nn x hx, by have := gb x hx; omega⟩⟩
  have enB1 : enB N (wk L (gr L N)) = true := (en_fe gl).mpr fe.en
  have okM : OkS M := ⟨by omega, by omega, fun x hx => by
    obtain ⟨i, hi, e⟩ := List.mem_iff_getElem.mp hx
    have b := mb i (by omega)
    rw [atN_lt hi, e] at b
    have i2 : i < (gr L N).length := by omega
    have c := okB.bd _ (atN_mem i2)
    have d := gb _ (atN_mem i2)
    omega⟩
  have enB2 : enB N (wk L M) = true := (en_fe (by omega)).mpr (fun i hi => by
    have := fe.en i hi
    have := win_le (f := gr L N) (g := M) (by omega) (fun j hj => (mb j hj).1) (a := i + 1 - L) (i + 1) (by omega) (by omega)
    omega)
  have w1 := law_work_ok (v := .d (nD (gr L N))) (S := m7 :: R) (F := gr L N) (.inr rfl) hz hL.1 (by omega)
  have w2 := law_work_ok (v := .d (nD M)) (S := m7 :: R) (F := M) (.inr rfl) hz hL.1 (by omega)
  have o1 := over_ok (S := m7 :: R) hz hL h okB gl enB1
  have o2 := over_ok (S := m7 :: R) hz hL h okM (by omega) enB2
  have a12 := t12_ok (S := m7 :: R) (Rw := ((lotsF L N.length).map (pairOf N)).map pqD) (G := iD (cst l)) (Lt := iD (cst lt)) (Dr := iD (sortU ys)) (T := T) (St := iD F) (W := iD (wk L F)) (y8 := z8) w1 (sumX_tup _ _) w2 (sumX_tup _ _) (sumX_tup N _) o1 o2
  have a13 := t13_ok (S := m7 :: R) (Rw := ((lotsF L N.length).map (pairOf N)).map pqD) (G := iD (cst l)) (Lt := iD (cst lt)) (Dr := iD (sortU ys)) (T := T) (St := iD F) (W := iD (wk L F)) (Mo := iD M) (y8 := z8) (y13 := some (.d (nD M))) (y14 := some (.d (.int ((wk L M).sum - N.sum)))) w1 (sumX_tup _ _) (sumX_tup N _) (least_ok hz hL.1 hL.2 h (m7 :: R)) o1
  have key : b__law_is_right [some (.loc 0), some (.d (nD N)), some (.d (.int z)), none, none, none, none, none, none, none, none, none, none, none, none, none, none] (m :: R) = .ret (.d (.bool true)) (m7 :: R) := by
    rw [b__law_is_right, ap_sCons, a0, seq_nx, ap_sCons, a1, seq_nx, ap_sCons, a2, seq_nx, ap_sCons, a3, seq_nx, ap_sCons, a4, seq_nx, ap_sCons, a5, seq_nx, ap_sCons, t6__law_is_right, ap_sFor, it6, st_ok, fl, seq_nx, ap_sCons, a7, seq_nx, ap_sCons, a8, seq_nx, ap_sCons, a9, seq_nx, ap_sCons, a10, seq_nx, ap_sCons, a11, seq_nx, ap_sCons, a12, seq_nx, a13]
  exact ⟨m7, H7, fn_retL (n := 17) (sb := b__law_is_right) (vs := [.loc 0, .d (nD N), .d (.int z)]) key (by simp)⟩
set_option exponentiation.threshold 5000
theorem said_needs {fb : Ev} {ρ : Env} {S : Store} (h : fb ρ S = .ex NE S) : eLam g__law_said fb ρ S = .ok (.d (.str "needs")) S := by
  refine eLam_of fun p => ?_
  have k0 : kit_NoNeeds (Str.ofString "NoNeeds") = some true := by decide
  have k1 : kit_NoNumber (Str.ofString "NoNeeds") = some false := by decide
  have k2 : kit_NoStarts (Str.ofString "NoNeeds") = some false := by decide
  have kv : kit_ValueError (Str.ofString "NoNeeds") = some true := by decide
  have ks : sub_FieldError (Str.ofString "NoNeeds") = some true := by decide
  have vc : ∀ S, vCount (.d (.list [.bool true, .bool false, .bool false])) (.d (.bool true)) S = .ok (.d (.int 1)) S := fun _ => rfl
  have vi : ∀ S, vIndex (.d (.list [.bool true, .bool false, .bool false])) (.d (.bool true)) S = .ok (.d (.int 0)) S := fun _ => rfl
  have lo : ∀ S, lstOf S (.d (.list [.bool true, .bool false, .bool false])) = some [.bool true, .bool false, .bool false] := fun _ => rfl
  simp [g__law_said, ap_fnOf, b__law_said, List.replicate, sTryAs, h, ks]
  rw [pickA_of (r := .ret (.d (.str "needs")) S) fun a => by simp [k0, k1, k2, kv, lo, vc, vi, dropI, oIx, view, oPost, atI, ixN, PyData.truthy]]
  simp [leave]
theorem said_number {fb : Ev} {ρ : Env} {S : Store} (h : fb ρ S = .ex NN S) : eLam g__law_said fb ρ S = .ok (.d (.str "number")) S := by
  refine eLam_of fun p => ?_
  have k0 : kit_NoNeeds (Str.ofString "NoNumber") = some false := by decide
  have k1 : kit_NoNumber (Str.ofString "NoNumber") = some true := by decide
  have k2 : kit_NoStarts (Str.ofString "NoNumber") = some false := by decide
  have kv : kit_ValueError (Str.ofString "NoNumber") = some true := by decide
  have ks : sub_FieldError (Str.ofString "NoNumber") = some true := by decide
  have vc : ∀ S, vCount (.d (.list [.bool false, .bool true, .bool false])) (.d (.bool true)) S = .ok (.d (.int 1)) S := fun _ => rfl
  have vi : ∀ S, vIndex (.d (.list [.bool false, .bool true, .bool false])) (.d (.bool true)) S = .ok (.d (.int 1)) S := fun _ => rfl
  have lo : ∀ S, lstOf S (.d (.list [.bool false, .bool true, .bool false])) = some [.bool false, .bool true, .bool false] := fun _ => rfl
  simp [g__law_said, ap_fnOf, b__law_said, List.replicate, sTryAs, h, ks]
  rw [pickA_of (r := .ret (.d (.str "number")) S) fun a => by simp [k0, k1, k2, kv, lo, vc, vi, dropI, oIx, view, oPost, atI, ixN, PyData.truthy]]
  simp [leave]
theorem said_starts {fb : Ev} {ρ : Env} {S : Store} (h : fb ρ S = .ex NS S) : eLam g__law_said fb ρ S = .ok (.d (.str "starts")) S := by
  refine eLam_of fun p => ?_
  have k0 : kit_NoNeeds (Str.ofString "NoStarts") = some false := by decide
  have k1 : kit_NoNumber (Str.ofString "NoStarts") = some false := by decide
  have k2 : kit_NoStarts (Str.ofString "NoStarts") = some true := by decide
  have kv : kit_ValueError (Str.ofString "NoStarts") = some true := by decide
  have ks : sub_FieldError (Str.ofString "NoStarts") = some true := by decide
  have vc : ∀ S, vCount (.d (.list [.bool false, .bool false, .bool true])) (.d (.bool true)) S = .ok (.d (.int 1)) S := fun _ => rfl
  have vi : ∀ S, vIndex (.d (.list [.bool false, .bool false, .bool true])) (.d (.bool true)) S = .ok (.d (.int 2)) S := fun _ => rfl
  have lo : ∀ S, lstOf S (.d (.list [.bool false, .bool false, .bool true])) = some [.bool false, .bool false, .bool true] := fun _ => rfl
  simp [g__law_said, ap_fnOf, b__law_said, List.replicate, sTryAs, h, ks]
  rw [pickA_of (r := .ret (.d (.str "starts")) S) fun a => by simp [k0, k1, k2, kv, lo, vc, vi, dropI, oIx, view, oPost, atI, ixN, PyData.truthy]]
  simp [leave]
theorem badB_w {d : D} (h : badB d = true) : needsB d = false ∧ ∀ ds, d = .tuple ds → ds.length ≤ 900 := by
  unfold badB at h
  rw [Bool.and_eq_true] at h
  refine ⟨by simpa using h.1, fun ds e => ?_⟩
  subst e
  simpa using h.2
theorem no_core {R : Store} {m m1 m' : MO} {d dp XX : D} (mx : ∀ S, oMulT false (.d (.tuple [.int 1])) (.d (.int 25)) S = .ok (.d XX) S) (dd : g__law_deep [.loc 0] (m :: R) = .ok (.d dp) (m1 :: R)) (h : g__law_any [.loc 0, .d (.list [.none, .tuple [], .list [.int 1], .tuple [.int 21], .tuple [.int (-1)], .tuple [.bool true], .tuple [.str "1"], XX, .int 1, .str "x", .dict [], .tuple [.none], dp])] (m1 :: R) = .ok (.d d) (m' :: R)) : g__law_no_needs [.loc 0] (m :: R) = .ok (.d d) (m' :: R) := by
  have ln : ∀ n, n ≤ 1000 → n ≤ sizeLine := fun n h => line1000 h
  simp [g__law_no_needs, ap_fnOf, b__law_no_needs, List.replicate, mx, mkK, oAdd, ln, dd, h, leave]
theorem no_needs_ok {R : Store} {m : MO} (H : IsHand m) : ∃ d m', badB d = true ∧ IsHand m' ∧ g__law_no_needs [.loc 0] (m :: R) = .ok (.d d) (m' :: R) := by
  obtain ⟨dp, m1, hp, H1, e1⟩ := deep_ok (R := R) H
  obtain ⟨d, m2, hd, H2, e2⟩ := some_ok (xs := [.none, .tuple [], .list [.int 1], .tuple [.int 21], .tuple [.int (-1)], .tuple [.bool true], .tuple [.str "1"], .tuple (List.replicate 25 (.int 1)), .int 1, .str "x", .dict [], .tuple [.none], dp]) (R := R) (by simp) (by simp) H1
  refine ⟨d, m2, ?_, H2, no_core (fun S => ?_) e1 e2⟩
  · simp only [List.mem_cons, List.not_mem_nil, or_false] at hd
    rcases hd with rfl | rfl | rfl | rfl | rfl | rfl | rfl | rfl | rfl | rfl | rfl | rfl | rfl
    iterate 12 decide +kernel
    exact hp.bad.1
  · simp [oMulT]
    rfl
theorem odd_len {R : Store} {m : MO} (H : IsHand m) : ∃ d m', inI 1 24 d = false ∧ IsHand m' ∧ g__law_any [.loc 0, .d (.list [.int 0, .int 25, .int (-1), .none, .bool true, .str "2"])] (m :: R) = .ok (.d d) (m' :: R) := by
  obtain ⟨d, m1, hd, H1, e1⟩ := some_ok (xs := [.int 0, .int 25, .int (-1), .none, .bool true, .str "2"]) (R := R) (by simp) (by simp) H
  refine ⟨d, m1, ?_, H1, e1⟩
  simp only [List.mem_cons, List.not_mem_nil, or_false] at hd
  rcases hd with rfl | rfl | rfl | rfl | rfl | rfl <;> decide +kernel
theorem badS_w {d : D} (h : badS d = true) : startsB d = false ∧ ∀ ds, d = .tuple ds → ds.length ≤ 900 := by
  unfold badS at h
  rw [Bool.and_eq_true] at h
  refine ⟨by simpa using h.1, fun ds e => ?_⟩
  subst e
  simpa using h.2
theorem starts_odd {m m1 m' : MO} {N b o s dp XX : D} (mx : ∀ S, oMulT false (.d (.tuple [.int 1])) (.d (.int 25)) S = .ok (.d XX) S) (dd : g__law_deep [.loc 0] [m] = .ok (.d dp) [m1]) (h : g__law_any [.loc 0, .d (.list [.none, .tuple [], .list [.int 1], .tuple [.int (-1)], .tuple [.int 1001], .tuple [.bool true], .tuple [.str "1"], XX, .int 1, .str "x", .dict [], dp])] [m1] = .ok (.d s) [m']) : t1__law_are_refused [some (.loc 0), some (.d N), some (.d b), some (.d o), none, none, none, none] [m] = .nx [some (.loc 0), some (.d N), some (.d b), some (.d o), some (.d s), none, none, none] [m'] := by
  have ln : ∀ n, n ≤ 1000 → n ≤ sizeLine := fun n h => line1000 h
  simp [t1__law_are_refused, mx, mkK, dd, h, frs]
section
variable {S : Store} {a b c : D} {x : Xn} {n k : Int}
theorem h_bad (h : g_check_both [.d a, .d b] S = .ex x S) : g_hours_apart [.d a, .d b] S = .ex x S := by
  simp [g_hours_apart, ap_fnOf, b_hours_apart, List.replicate, h, leave]
theorem ih_bad (h : g_check_both [.d a, .d b] S = .ex x S) : g_is_hours_apart [.d a, .d b, .d c] S = .ex x S := by
  simp [g_is_hours_apart, ap_fnOf, b_is_hours_apart, List.replicate, h, leave]
theorem aw_bad1 (h : g_check_starts [.d a] S = .ex x S) : g_at_work [.d a, .d b] S = .ex x S := by
  simp [g_at_work, ap_fnOf, b_at_work, List.replicate, h, leave]
theorem aw_bad2 (h0 : g_check_starts [.d a] S = .ok (.d .none) S) (h : g_check_length [.d b] S = .ex x S) : g_at_work [.d a, .d b] S = .ex x S := by
  simp [g_at_work, ap_fnOf, b_at_work, List.replicate, h0, h, leave]
theorem ov1 (h : g_check_needs [.d a] S = .ex x S) : g_over_hours [.d a, .d b, .d c] S = .ex x S := by
  simp [g_over_hours, ap_fnOf, b_over_hours, t0_over_hours, List.replicate, h, leave]
theorem ov2 (h0 : g_check_needs [.d a] S = .ok (.d .none) S) (h : g_check_starts [.d b] S = .ex x S) : g_over_hours [.d a, .d b, .d c] S = .ex x S := by
  simp [g_over_hours, ap_fnOf, b_over_hours, t0_over_hours, t1_over_hours, List.replicate, h0, h, leave]
theorem ov3 (h0 : g_check_needs [.d a] S = .ok (.d .none) S) (h1 : g_check_starts [.d b] S = .ok (.d .none) S) (l1 : fLen [.d b] S = .ok (.d (.int n)) S) (l2 : fLen [.d a] S = .ok (.d (.int k)) S) (ne : n ≠ k) : g_over_hours [.d a, .d b, .d c] S = .ex NS S := by
  simp [g_over_hours, ap_fnOf, b_over_hours, t0_over_hours, t1_over_hours, t2_over_hours, List.replicate, h0, h1, l1, l2, ne, leave]
theorem ov4 (h0 : g_check_needs [.d a] S = .ok (.d .none) S) (h1 : g_check_starts [.d b] S = .ok (.d .none) S) (l1 : fLen [.d b] S = .ok (.d (.int n)) S) (l2 : fLen [.d a] S = .ok (.d (.int n)) S) (h : g_check_length [.d c] S = .ex x S) : g_over_hours [.d a, .d b, .d c] S = .ex x S := by
  simp [g_over_hours, ap_fnOf, b_over_hours, t0_over_hours, t1_over_hours, t2_over_hours, t3_over_hours, List.replicate, h0, h1, l1, l2, h, leave]
theorem ov5 (h0 : g_check_needs [.d a] S = .ok (.d .none) S) (h1 : g_check_starts [.d b] S = .ok (.d .none) S) (l1 : fLen [.d b] S = .ok (.d (.int n)) S) (l2 : fLen [.d a] S = .ok (.d (.int n)) S) (h3 : g_check_length [.d c] S = .ok (.d .none) S) (en : g_are_enough [.d a, .d b, .d c] S = .ok (.d (.bool false)) S) : g_over_hours [.d a, .d b, .d c] S = .ex NS S := by
  simp [g_over_hours, ap_fnOf, b_over_hours, t0_over_hours, t1_over_hours, t2_over_hours, t3_over_hours, t4_over_hours, List.replicate, h0, h1, l1, l2, h3, en, leave]
end
theorem mulT_n {x : D} {n : Nat} (h : 1 ≤ n ∧ n ≤ 10) (S : Store) : oMulT false (.d (.tuple [x])) (.d (.int (n : Int))) S = .ok (.d (.tuple (List.replicate n x))) S := by
  rcases (show n = 1 ∨ n = 2 ∨ n = 3 ∨ n = 4 ∨ n = 5 ∨ n = 6 ∨ n = 7 ∨ n = 8 ∨ n = 9 ∨ n = 10 by omega) with rfl | rfl | rfl | rfl | rfl | rfl | rfl | rfl | rfl | rfl <;> simp [oMulT] <;> rfl
section
variable {N b o s e d : D} {U : Store} {ws : List D} {x7 : Option Vl}
theorem app_ok {ev : Ev} (he : ev [some (.loc 0), some (.d N), some (.d b), some (.d o), some (.d s), some (.d e), some (.loc U.length), none] (U ++ [.lst ws]) = .ok (.d d) (U ++ [.lst ws])) (hl : ws.length ≤ 100) : sExpr (eApp (eVar 6) ev) [some (.loc 0), some (.d N), some (.d b), some (.d o), some (.d s), some (.d e), some (.loc U.length), none] (U ++ [.lst ws]) = .nx [some (.loc 0), some (.d N), some (.d b), some (.d o), some (.d s), some (.d e), some (.loc U.length), none] (U ++ [.lst (ws ++ [d])]) := by
  have sz : ws.length < sizeLine := Nat.lt_of_lt_of_le (by omega) (line1000 (Nat.le_refl 1000))
  have g1 : (U ++ [MO.lst ws])[U.length]? = some (.lst ws) := by simp
  have st : ∀ X, (U ++ [MO.lst ws]).set U.length X = U ++ [X] := fun X => by simp
  generalize U ++ [MO.lst ws] = S1 at *
  generalize U.length = n at *
  simp [isLst, g1, he, putApp, sz, st]
theorem call2x {f : Fn} {e1 e2 : Ev} {v1 v2 : Vl} {ρ : Env} {S : Store} {x : Xn} (h1 : e1 ρ S = .ok v1 S) (h2 : e2 ρ S = .ok v2 S) (h : f [v1, v2] S = .ex x S) : eCallN 2 f (aCons e1 (aCons e2 aNil)) ρ S = .ex x S := by
  rw [ap_eCallN, aC h1 (aC h2 aN), bind_ok, if_pos (show [v1, v2].length = 2 from rfl), h]
theorem call3x {f : Fn} {e1 e2 e3 : Ev} {v1 v2 v3 : Vl} {ρ : Env} {S : Store} {x : Xn} (h1 : e1 ρ S = .ok v1 S) (h2 : e2 ρ S = .ok v2 S) (h3 : e3 ρ S = .ok v3 S) (h : f [v1, v2, v3] S = .ex x S) : eCallN 3 f (aCons e1 (aCons e2 (aCons e3 aNil))) ρ S = .ex x S := by
  rw [ap_eCallN, aC h1 (aC h2 (aC h3 aN)), bind_ok, if_pos (show [v1, v2, v3].length = 3 from rfl), h]
end
theorem ref_core {Cs Es Z : List D} {b o s : D} {n : Int} {m m1 m2 m4 : MO} (e1 : g__law_no_needs [.loc 0] [m] = .ok (.d b) [m1]) (e2 : g__law_any [.loc 0, .d (.list [.int 0, .int 25, .int (-1), .none, .bool true, .str "2"])] [m1] = .ok (.d o) [m2])
    (e3 : t1__law_are_refused [some (.loc 0), some (.d (.tuple Cs)), some (.d b), some (.d o), none, none, none, none] [m2] = .nx [some (.loc 0), some (.d (.tuple Cs)), some (.d b), some (.d o), some (.d s), none, none, none] [m4])
    (ln : ∀ S, fLen [.d (.tuple Cs)] S = .ok (.d (.int n)) S) (mE : ∀ S, oMulT false (.d (.tuple [.int 20])) (.d (.int n)) S = .ok (.d (.tuple Es)) S) (mZ : ∀ S, oMulT false (.d (.tuple [.int 0])) (.d (.int n)) S = .ok (.d (.tuple Z)) S) (hE : Es.length ≤ 100) (hC : Cs.length ≤ 100)
    (f0 : ∀ S, g_hours_apart [.d b, .d o] S = .ex NE S) (f1 : ∀ S, g_hours_apart [.d (.tuple Cs), .d o] S = .ex NN S) (f2 : ∀ S, g_is_hours_apart [.d b, .d o, .d (.tuple [])] S = .ex NE S) (f3 : ∀ S, g_is_hours_apart [.d (.tuple Cs), .d o, .d (.tuple [])] S = .ex NN S) (f4 : ∀ S, g_at_work [.d s, .d o] S = .ex NS S) (f5 : ∀ S, g_at_work [.d (.tuple [.int 1, .int 2]), .d o] S = .ex NN S) (f6 : ∀ S, g_over_hours [.d b, .d s, .d o] S = .ex NE S) (f7 : ∀ S, g_over_hours [.d (.tuple Cs), .d s, .d o] S = .ex NS S) (f8 : ∀ S, g_over_hours [.d (.tuple Cs), .d (.tuple (Es ++ [.int 1])), .d (.int 1)] S = .ex NS S) (f9 : ∀ S, g_over_hours [.d (.tuple (.int 1 :: Cs.tail)), .d (.tuple Z), .d (.int 1)] S = .ex NS S) (f10 : ∀ S, g_over_hours [.d (.tuple Cs), .d (.tuple Es), .d o] S = .ex NN S) :
    g__law_are_refused [.loc 0, .d (.tuple Cs)] [m] = .ok (.d (.bool true)) [m4] := by
  have tE : ∀ (ρ : Env) (S : Store), eTup aNil ρ S = .ok (.d (.tuple [])) S := fun _ _ => rfl
  have s0 : t0__law_are_refused [some (.loc 0), some (.d (.tuple Cs)), none, none, none, none, none, none] [m] = .nx [some (.loc 0), some (.d (.tuple Cs)), some (.d b), some (.d o), none, none, none, none] [m2] := by
    simp [t0__law_are_refused, e1, e2]
  have lE : ∀ (ρ : Env) (S : Store), ρ[1]? = some (some (.d (.tuple Cs))) → eCall fLen (aCons (eVar 1) aNil) ρ S = .ok (.d (.int n)) S := fun ρ S hρ => by
    have : eVar 1 ρ S = .ok (.d (.tuple Cs)) S := by simp [hρ]
    rw [ap_eCall, aC this aN, bind_ok, ln]
  have s2 : t2__law_are_refused [some (.loc 0), some (.d (.tuple Cs)), some (.d b), some (.d o), some (.d s), none, none, none] [m4] = .nx [some (.loc 0), some (.d (.tuple Cs)), some (.d b), some (.d o), some (.d s), some (.d (.tuple Es)), none, none] [m4] := by
    rw [t2__law_are_refused, ap_sSet, ap_eBin, show eTup (aCons (eD (.int 20)) aNil) [some (.loc 0), some (.d (.tuple Cs)), some (.d b), some (.d o), some (.d s), none, none, none] [m4] = .ok (.d (.tuple [.int 20])) [m4] from rfl, bind_ok, lE _ _ rfl, bind_ok, mE]
    rfl
  have w0 := said_needs (fb := l0__law_are_refused) (ρ := [some (.loc 0), some (.d (.tuple Cs)), some (.d b), some (.d o), some (.d s), some (.d (.tuple Es)), none, none]) (S := [m4]) (call2x (e1 := eVar 2) (e2 := eVar 3) rfl rfl (f0 _))
  have w1 := said_number (fb := l1__law_are_refused) (ρ := [some (.loc 0), some (.d (.tuple Cs)), some (.d b), some (.d o), some (.d s), some (.d (.tuple Es)), none, none]) (S := [m4]) (call2x (e1 := eVar 1) (e2 := eVar 3) rfl rfl (f1 _))
  have s3 : t3__law_are_refused [some (.loc 0), some (.d (.tuple Cs)), some (.d b), some (.d o), some (.d s), some (.d (.tuple Es)), none, none] [m4] = .nx [some (.loc 0), some (.d (.tuple Cs)), some (.d b), some (.d o), some (.d s), some (.d (.tuple Es)), some (.loc 1), none] ([m4] ++ [.lst [.str "needs", .str "number"]]) := by
    rw [t3__law_are_refused, ap_sSet, ap_eLst, aC w0 (aC w1 aN), bind_ok]
    rfl
  have t12 : ∀ (ρ : Env) (S : Store), eTup (aCons (eD (.int 1)) (aCons (eD (.int 2)) aNil)) ρ S = .ok (.d (.tuple [.int 1, .int 2])) S := fun _ _ => rfl
  have t8e : ∀ S, eBin (oAdd false) (eVar 5) (eTup (aCons (eD (.int 1)) aNil)) [some (.loc 0), some (.d (.tuple Cs)), some (.d b), some (.d o), some (.d s), some (.d (.tuple Es)), some (.loc 1), none] S = .ok (.d (.tuple (Es ++ [.int 1]))) S := fun S => by
    rw [ap_eBin, show eVar 5 [some (.loc 0), some (.d (.tuple Cs)), some (.d b), some (.d o), some (.d s), some (.d (.tuple Es)), some (.loc 1), none] S = .ok (.d (.tuple Es)) S from rfl, bind_ok, show eTup (aCons (eD (.int 1)) aNil) [some (.loc 0), some (.d (.tuple Cs)), some (.d b), some (.d o), some (.d s), some (.d (.tuple Es)), some (.loc 1), none] S = .ok (.d (.tuple [.int 1])) S from rfl, bind_ok, add_tup (by simp; omega)]
  have t9a : ∀ S, eBin (oAdd false) (eTup (aCons (eD (.int 1)) aNil)) (eSl false (eVar 1) (pAt (eD (.int 1))) pNo) [some (.loc 0), some (.d (.tuple Cs)), some (.d b), some (.d o), some (.d s), some (.d (.tuple Es)), some (.loc 1), none] S = .ok (.d (.tuple (.int 1 :: Cs.tail))) S := fun S => by
    have sl : eSl false (eVar 1) (pAt (eD (.int 1))) pNo [some (.loc 0), some (.d (.tuple Cs)), some (.d b), some (.d o), some (.d s), some (.d (.tuple Es)), some (.loc 1), none] S = .ok (.d (.tuple Cs.tail)) S := by
      rw [ap_eSl, show eVar 1 [some (.loc 0), some (.d (.tuple Cs)), some (.d b), some (.d o), some (.d s), some (.d (.tuple Es)), some (.loc 1), none] S = .ok (.d (.tuple Cs)) S from rfl, bind_ok, show pAt (eD (.int 1)) [some (.loc 0), some (.d (.tuple Cs)), some (.d b), some (.d o), some (.d s), some (.d (.tuple Es)), some (.loc 1), none] S = .ok (some 1) S from rfl, bind_ok, show pNo [some (.loc 0), some (.d (.tuple Cs)), some (.d b), some (.d o), some (.d s), some (.d (.tuple Es)), some (.loc 1), none] S = .ok none S from rfl, bind_ok]
      simp [slV, cut_tail]
    rw [ap_eBin, show eTup (aCons (eD (.int 1)) aNil) [some (.loc 0), some (.d (.tuple Cs)), some (.d b), some (.d o), some (.d s), some (.d (.tuple Es)), some (.loc 1), none] S = .ok (.d (.tuple [.int 1])) S from rfl, bind_ok, sl, bind_ok, add_tup (by simp; omega)]
    rfl
  have t9b : ∀ S, eBin (oMulT false) (eTup (aCons (eD (.int 0)) aNil)) (eCall fLen (aCons (eVar 1) aNil)) [some (.loc 0), some (.d (.tuple Cs)), some (.d b), some (.d o), some (.d s), some (.d (.tuple Es)), some (.loc 1), none] S = .ok (.d (.tuple Z)) S := fun S => by
    rw [ap_eBin, show eTup (aCons (eD (.int 0)) aNil) [some (.loc 0), some (.d (.tuple Cs)), some (.d b), some (.d o), some (.d s), some (.d (.tuple Es)), some (.loc 1), none] S = .ok (.d (.tuple [.int 0])) S from rfl, bind_ok, lE _ _ rfl, bind_ok, mZ]
  have a2 : t4__law_are_refused [some (.loc 0), some (.d (.tuple Cs)), some (.d b), some (.d o), some (.d s), some (.d (.tuple Es)), some (.loc 1), none] ([m4] ++ [.lst [.str "needs", .str "number"]]) = .nx [some (.loc 0), some (.d (.tuple Cs)), some (.d b), some (.d o), some (.d s), some (.d (.tuple Es)), some (.loc 1), none] ([m4] ++ [.lst [.str "needs", .str "number", .str "needs"]]) :=
    app_ok (U := [m4]) (said_needs (fb := l2__law_are_refused) (call3x (e1 := eVar 2) (e2 := eVar 3) rfl rfl (tE _ _) (f2 _))) (by simp)
  have a3 : t5__law_are_refused [some (.loc 0), some (.d (.tuple Cs)), some (.d b), some (.d o), some (.d s), some (.d (.tuple Es)), some (.loc 1), none] ([m4] ++ [.lst [.str "needs", .str "number", .str "needs"]]) = .nx [some (.loc 0), some (.d (.tuple Cs)), some (.d b), some (.d o), some (.d s), some (.d (.tuple Es)), some (.loc 1), none] ([m4] ++ [.lst [.str "needs", .str "number", .str "needs", .str "number"]]) :=
    app_ok (U := [m4]) (said_number (fb := l3__law_are_refused) (call3x (e1 := eVar 1) (e2 := eVar 3) rfl rfl (tE _ _) (f3 _))) (by simp)
  have a4 : t6__law_are_refused [some (.loc 0), some (.d (.tuple Cs)), some (.d b), some (.d o), some (.d s), some (.d (.tuple Es)), some (.loc 1), none] ([m4] ++ [.lst [.str "needs", .str "number", .str "needs", .str "number"]]) = .nx [some (.loc 0), some (.d (.tuple Cs)), some (.d b), some (.d o), some (.d s), some (.d (.tuple Es)), some (.loc 1), none] ([m4] ++ [.lst [.str "needs", .str "number", .str "needs", .str "number", .str "starts"]]) :=
    app_ok (U := [m4]) (said_starts (fb := l4__law_are_refused) (call2x (e1 := eVar 4) (e2 := eVar 3) rfl rfl (f4 _))) (by simp)
  have a5 : t7__law_are_refused [some (.loc 0), some (.d (.tuple Cs)), some (.d b), some (.d o), some (.d s), some (.d (.tuple Es)), some (.loc 1), none] ([m4] ++ [.lst [.str "needs", .str "number", .str "needs", .str "number", .str "starts"]]) = .nx [some (.loc 0), some (.d (.tuple Cs)), some (.d b), some (.d o), some (.d s), some (.d (.tuple Es)), some (.loc 1), none] ([m4] ++ [.lst [.str "needs", .str "number", .str "needs", .str "number", .str "starts", .str "number"]]) :=
    app_ok (U := [m4]) (said_number (fb := l5__law_are_refused) (call2x (e2 := eVar 3) (t12 _ _) rfl (f5 _))) (by simp)
  have a6 : t8__law_are_refused [some (.loc 0), some (.d (.tuple Cs)), some (.d b), some (.d o), some (.d s), some (.d (.tuple Es)), some (.loc 1), none] ([m4] ++ [.lst [.str "needs", .str "number", .str "needs", .str "number", .str "starts", .str "number"]]) = .nx [some (.loc 0), some (.d (.tuple Cs)), some (.d b), some (.d o), some (.d s), some (.d (.tuple Es)), some (.loc 1), none] ([m4] ++ [.lst [.str "needs", .str "number", .str "needs", .str "number", .str "starts", .str "number", .str "needs"]]) :=
    app_ok (U := [m4]) (said_needs (fb := l6__law_are_refused) (call3x (e1 := eVar 2) (e2 := eVar 4) (e3 := eVar 3) rfl rfl rfl (f6 _))) (by simp)
  have a7 : t9__law_are_refused [some (.loc 0), some (.d (.tuple Cs)), some (.d b), some (.d o), some (.d s), some (.d (.tuple Es)), some (.loc 1), none] ([m4] ++ [.lst [.str "needs", .str "number", .str "needs", .str "number", .str "starts", .str "number", .str "needs"]]) = .nx [some (.loc 0), some (.d (.tuple Cs)), some (.d b), some (.d o), some (.d s), some (.d (.tuple Es)), some (.loc 1), none] ([m4] ++ [.lst [.str "needs", .str "number", .str "needs", .str "number", .str "starts", .str "number", .str "needs", .str "starts"]]) :=
    app_ok (U := [m4]) (said_starts (fb := l7__law_are_refused) (call3x (e1 := eVar 1) (e2 := eVar 4) (e3 := eVar 3) rfl rfl rfl (f7 _))) (by simp)
  have a8 : t10__law_are_refused [some (.loc 0), some (.d (.tuple Cs)), some (.d b), some (.d o), some (.d s), some (.d (.tuple Es)), some (.loc 1), none] ([m4] ++ [.lst [.str "needs", .str "number", .str "needs", .str "number", .str "starts", .str "number", .str "needs", .str "starts"]]) = .nx [some (.loc 0), some (.d (.tuple Cs)), some (.d b), some (.d o), some (.d s), some (.d (.tuple Es)), some (.loc 1), none] ([m4] ++ [.lst [.str "needs", .str "number", .str "needs", .str "number", .str "starts", .str "number", .str "needs", .str "starts", .str "starts"]]) :=
    app_ok (U := [m4]) (said_starts (fb := l8__law_are_refused) (call3x (e1 := eVar 1) (e3 := eD (.int 1)) rfl (t8e _) rfl (f8 _))) (by simp)
  have a9 : t11__law_are_refused [some (.loc 0), some (.d (.tuple Cs)), some (.d b), some (.d o), some (.d s), some (.d (.tuple Es)), some (.loc 1), none] ([m4] ++ [.lst [.str "needs", .str "number", .str "needs", .str "number", .str "starts", .str "number", .str "needs", .str "starts", .str "starts"]]) = .nx [some (.loc 0), some (.d (.tuple Cs)), some (.d b), some (.d o), some (.d s), some (.d (.tuple Es)), some (.loc 1), none] ([m4] ++ [.lst [.str "needs", .str "number", .str "needs", .str "number", .str "starts", .str "number", .str "needs", .str "starts", .str "starts", .str "starts"]]) :=
    app_ok (U := [m4]) (said_starts (fb := l9__law_are_refused) (call3x (e3 := eD (.int 1)) (t9a _) (t9b _) rfl (f9 _))) (by simp)
  have a10 : t12__law_are_refused [some (.loc 0), some (.d (.tuple Cs)), some (.d b), some (.d o), some (.d s), some (.d (.tuple Es)), some (.loc 1), none] ([m4] ++ [.lst [.str "needs", .str "number", .str "needs", .str "number", .str "starts", .str "number", .str "needs", .str "starts", .str "starts", .str "starts"]]) = .nx [some (.loc 0), some (.d (.tuple Cs)), some (.d b), some (.d o), some (.d s), some (.d (.tuple Es)), some (.loc 1), none] ([m4] ++ [.lst [.str "needs", .str "number", .str "needs", .str "number", .str "starts", .str "number", .str "needs", .str "starts", .str "starts", .str "starts", .str "number"]]) :=
    app_ok (U := [m4]) (said_number (fb := l10__law_are_refused) (call3x (e1 := eVar 1) (e2 := eVar 5) (e3 := eVar 3) rfl rfl rfl (f10 _))) (by simp)
  have ln1 : ∀ n, n ≤ 1000 → n ≤ sizeLine := fun n h => line1000 h
  obtain ⟨S1, eS⟩ : ∃ S1 : Store, [m4] ++ [MO.lst [.str "needs", .str "number", .str "needs", .str "number", .str "starts", .str "number", .str "needs", .str "starts", .str "starts", .str "starts", .str "number"]] = S1 := ⟨_, rfl⟩
  have g1 : S1[1]? = some (.lst [.str "needs", .str "number", .str "needs", .str "number", .str "starts", .str "number", .str "needs", .str "starts", .str "starts", .str "starts", .str "number"]) := by rw [← eS]; rfl
  have s13 : t13__law_are_refused [some (.loc 0), some (.d (.tuple Cs)), some (.d b), some (.d o), some (.d s), some (.d (.tuple Es)), some (.loc 1), none] S1 = .nx [some (.loc 0), some (.d (.tuple Cs)), some (.d b), some (.d o), some (.d s), some (.d (.tuple Es)), some (.loc 1), some (.d (.list [.str "needs", .str "number", .str "needs", .str "number", .str "starts", .str "number", .str "needs", .str "starts", .str "starts", .str "starts", .str "number"]))] S1 := by
    have mu : oMul false (.d (.list [.str "needs", .str "number"])) (.d (.int 2)) S1 = .ok (.d (.list [.str "needs", .str "number", .str "needs", .str "number"])) S1 := by
      simp [oMul, ln1]
    have q1 : eLst false (aCons (eD (.str "needs")) (aCons (eD (.str "number")) aNil)) [some (.loc 0), some (.d (.tuple Cs)), some (.d b), some (.d o), some (.d s), some (.d (.tuple Es)), some (.loc 1), none] S1 = .ok (.d (.list [.str "needs", .str "number"])) S1 := rfl
    have q2 : eLst false (aCons (eD (.str "starts")) (aCons (eD (.str "number")) (aCons (eD (.str "needs")) (aCons (eD (.str "starts")) (aCons (eD (.str "starts")) (aCons (eD (.str "starts")) (aCons (eD (.str "number")) aNil))))))) [some (.loc 0), some (.d (.tuple Cs)), some (.d b), some (.d o), some (.d s), some (.d (.tuple Es)), some (.loc 1), none] S1 = .ok (.d (.list [.str "starts", .str "number", .str "needs", .str "starts", .str "starts", .str "starts", .str "number"])) S1 := rfl
    rw [t13__law_are_refused, ap_sSet, ap_eBin, ap_eBin, q1, bind_ok, ap_eD, bind_ok, mu, bind_ok, q2, bind_ok, add_lists (by simp)]
    rfl
  have s14 : t14__law_are_refused [some (.loc 0), some (.d (.tuple Cs)), some (.d b), some (.d o), some (.d s), some (.d (.tuple Es)), some (.loc 1), some (.d (.list [.str "needs", .str "number", .str "needs", .str "number", .str "starts", .str "number", .str "needs", .str "starts", .str "starts", .str "starts", .str "number"]))] S1 = .ret (.d (.bool true)) S1 := by
    have q : oEq (.loc 1) (.d (.list [.str "needs", .str "number", .str "needs", .str "number", .str "starts", .str "number", .str "needs", .str "starts", .str "starts", .str "starts", .str "number"])) S1 = .ok (.d (.bool true)) S1 := by
      have q0 : oEq (.d (.list [.str "needs", .str "number", .str "needs", .str "number", .str "starts", .str "number", .str "needs", .str "starts", .str "starts", .str "starts", .str "number"])) (.d (.list [.str "needs", .str "number", .str "needs", .str "number", .str "starts", .str "number", .str "needs", .str "starts", .str "starts", .str "starts", .str "number"])) S1 = .ok (.d (.bool true)) S1 := oEq_same rfl
      have v : view S1 (.loc 1) = some (.list [.str "needs", .str "number", .str "needs", .str "number", .str "starts", .str "number", .str "needs", .str "starts", .str "starts", .str "starts", .str "number"]) := by simp [view, g1]
      unfold oEq at *
      rw [v]
      exact q0
    rw [t14__law_are_refused, ap_sRet, ap_eBin, show eVar 6 [some (.loc 0), some (.d (.tuple Cs)), some (.d b), some (.d o), some (.d s), some (.d (.tuple Es)), some (.loc 1), some (.d (.list [.str "needs", .str "number", .str "needs", .str "number", .str "starts", .str "number", .str "needs", .str "starts", .str "starts", .str "starts", .str "number"]))] S1 = .ok (.loc 1) S1 from rfl, bind_ok, show eVar 7 [some (.loc 0), some (.d (.tuple Cs)), some (.d b), some (.d o), some (.d s), some (.d (.tuple Es)), some (.loc 1), some (.d (.list [.str "needs", .str "number", .str "needs", .str "number", .str "starts", .str "number", .str "needs", .str "starts", .str "starts", .str "starts", .str "number"]))] S1 = .ok (.d (.list [.str "needs", .str "number", .str "needs", .str "number", .str "starts", .str "number", .str "needs", .str "starts", .str "starts", .str "starts", .str "number"])) S1 from rfl, bind_ok, q]
    rfl
  rw [eS] at a10
  have key : b__law_are_refused [some (.loc 0), some (.d (.tuple Cs)), none, none, none, none, none, none] [m] = .ret (.d (.bool true)) S1 := by
    rw [b__law_are_refused, ap_sCons, s0, seq_nx, ap_sCons, e3, seq_nx, ap_sCons, s2, seq_nx, ap_sCons, s3, seq_nx, ap_sCons, a2, seq_nx, ap_sCons, a3, seq_nx, ap_sCons, a4, seq_nx, ap_sCons, a5, seq_nx, ap_sCons, a6, seq_nx, ap_sCons, a7, seq_nx, ap_sCons, a8, seq_nx, ap_sCons, a9, seq_nx, ap_sCons, a10, seq_nx, ap_sCons, s13, seq_nx, s14]
  have := fn_ret (n := 8) (sb := b__law_are_refused) (vs := [.loc 0, .d (.tuple Cs)]) key
  rw [← eS] at this
  exact this
theorem refused_ok {N : List Int} {m : MO} (h : OkN N) (hn : N.length ≤ 10) (H : IsHand m) : ∃ m', IsHand m' ∧ g__law_are_refused [.loc 0, .d (nD N)] [m] = .ok (.d (.bool true)) [m'] := by
  have l1 := h.l1
  obtain ⟨b, m1, hb, H1, e1⟩ := no_needs_ok (R := []) H
  obtain ⟨b1, b2⟩ := badB_w hb
  obtain ⟨o, m2, ho, H2, e2⟩ := odd_len (R := []) H1
  obtain ⟨dp, m3, hp, H3, e3⟩ := deep_ok (R := []) H2
  obtain ⟨s, m4, hs, H4, e4⟩ := some_ok (xs := [.none, .tuple [], .list [.int 1], .tuple [.int (-1)], .tuple [.int 1001], .tuple [.bool true], .tuple [.str "1"], .tuple (List.replicate 25 (.int 1)), .int 1, .str "x", .dict [], dp]) (R := []) (by simp) (by simp) H3
  have hs : badS s = true := by
    simp only [List.mem_cons, List.not_mem_nil, or_false] at hs
    rcases hs with rfl | rfl | rfl | rfl | rfl | rfl | rfl | rfl | rfl | rfl | rfl | rfl
    iterate 11 decide +kernel
    exact hp.bad.2
  obtain ⟨s1, s2⟩ := badS_w hs
  have cb : ∀ S, g_check_both [.d b, .d o] S = .ex NE S := fun S => by rw [check_both_ok b o S b2, b1]; rfl
  have cn : ∀ S, g_check_both [.d (nD N), .d o] S = .ex NN S := fun S => by rw [check_both_ok _ _ _ h.hl, h.ok, ho]; rfl
  have nb : ∀ S, g_check_needs [.d b] S = .ex NE S := fun S => by rw [check_needs_ok b S b2, b1]; rfl
  have sb : ∀ S, g_check_starts [.d s] S = .ex NS S := fun S => by rw [check_starts_ok s S s2, s1]; rfl
  have lb : ∀ S, g_check_length [.d o] S = .ex NN S := fun S => by rw [check_length_ok, ho]; rfl
  have sn : ∀ (F : List Int) S, fLen [.d (nD F)] S = .ok (.d (.int (F.length : Nat))) S := fun F S => Seen.ln (v := .d (nD F)) (.inr rfl)
  have okE : OkS (List.replicate N.length 20) := ⟨by simpa using l1, by simp; omega, fun x hx => by rw [List.eq_of_mem_replicate hx]; omega⟩
  have okZ : OkS (List.replicate N.length 0) := ⟨by simpa using l1, by simp; omega, fun x hx => by rw [List.eq_of_mem_replicate hx]; omega⟩
  have okE1 : OkS (List.replicate N.length 20 ++ [1]) := ⟨by simp, by simp; omega, fun x hx => by
    rcases List.mem_append.mp hx with hx | hx
    · rw [List.eq_of_mem_replicate hx]; omega
    · simp at hx; omega⟩
  have ok12 : OkS [1, 2] := ⟨by decide, by decide, by decide⟩
  have tl : N.tail.length + 1 = N.length := by rw [List.length_tail]; omega
  have ok1 : OkN (1 :: N.tail) := ⟨by simp, by have := h.l2; simp; omega, fun x hx => by
    rcases List.mem_cons.mp hx with rfl | hx
    · omega
    · exact h.bd x (List.mem_of_mem_tail hx)⟩
  have enZ : enB (1 :: N.tail) (wk 1 (List.replicate N.length 0)) = false := by
    cases q : enB (1 :: N.tail) (wk 1 (List.replicate N.length 0)) with
    | false => rfl
    | true =>
      exfalso
      have := (en_fe (N := 1 :: N.tail) (L := 1) (f := List.replicate N.length 0) (by simp; omega)).mp q 0 (by simp)
      rw [pre_succ (by simp; omega), pre_0] at this
      have z0 : atN (List.replicate N.length 0) 0 = 0 := by
        unfold atN
        rw [List.getD_eq_getElem?_getD, List.getElem?_replicate]
        split <;> rfl
      rw [z0] at this
      simp [atN, pre] at this
  have eE : (PyData.tuple (List.replicate N.length (.int 20))) = nD (List.replicate N.length 20) := by simp [iD]
  have eZ : (PyData.tuple (List.replicate N.length (.int 0))) = nD (List.replicate N.length 0) := by simp [iD]
  have eE1 : (PyData.tuple (List.replicate N.length (.int 20) ++ [.int 1])) = nD (List.replicate N.length 20 ++ [1]) := by simp [iD]
  have e1N : (PyData.tuple (.int 1 :: (iD N).tail)) = nD (1 :: N.tail) := by simp [iD]
  have g1 : ∀ S, g_check_length [.d (.int 1)] S = .ok (.d .none) S := fun S => len_good (by omega)
  refine ⟨m4, H4, ref_core (Cs := iD N) (Es := List.replicate N.length (.int 20)) (Z := List.replicate N.length (.int 0)) (n := (N.length : Int)) e1 e2 (starts_odd (fun S => ?_) e3 e4) (sn N) (mulT_n ⟨l1, hn⟩) (mulT_n ⟨l1, hn⟩) (by simp; omega) (by rw [iD_len]; omega) (fun S => h_bad (cb S)) (fun S => h_bad (cn S)) (fun S => ih_bad (cb S)) (fun S => ih_bad (cn S)) (fun S => aw_bad1 (sb S)) (fun S => aw_bad2 (ok12.chk S) (lb S)) (fun S => ov1 (nb S)) (fun S => ov2 (h.need S) (sb S)) (fun S => ?_) (fun S => ?_) (fun S => ?_)⟩
  · simp [oMulT]
    rfl
  · rw [eE1]
    exact ov3 (h.need S) (okE1.chk S) (sn _ S) (sn N S) (by
      have : (List.replicate N.length (20 : Int) ++ [1]).length = N.length + 1 := by simp
      rw [this]
      omega)
  · rw [e1N, eZ]
    have en := enough_ok (S := S) (z := 1) (L := 1) rfl (by omega) ok1 (List.replicate N.length 0) (by simp; omega)
    rw [enZ] at en
    have la := sn (List.replicate N.length 0) S
    have lc := sn (1 :: N.tail) S
    rw [List.length_replicate] at la
    rw [List.length_cons, tl] at lc
    exact ov5 (ok1.need S) (okZ.chk S) la lc (g1 S) en
  · rw [eE]
    have la := sn (List.replicate N.length 20) S
    rw [List.length_replicate] at la
    exact ov4 (h.need S) (okE.chk S) la (sn N S) (lb S)
set_option exponentiation.threshold 5000
theorem bx_of {L : Nat} {N : List Int} {l : List Nat} (hL : 1 ≤ L) (hl : l ∈ lotsF L N.length) (h : ∀ m ∈ lotsF L N.length, wt N m ≤ wt N l ∧ (wt N m = wt N l → ltL (cst m) (cst l) = false)) : Bx L N 0 (wt N l) l :=
  ⟨⟨(lots_mem hL _ _).mp hl, rfl, fun m p => (h m ((lots_mem hL _ _).mpr p)).1⟩, fun m p e => (h m ((lots_mem hL _ _).mpr p)).2 e⟩
theorem bx_uniq {L : Nat} {N : List Int} {v w : Int} {l m : List Nat} (a : Bx L N 0 v l) (b : Bx L N 0 w m) : cst l = cst m := by
  have h1 := a.b.mx m b.b.ap
  have h2 := b.b.mx l a.b.ap
  rw [b.b.wt] at h1
  rw [a.b.wt] at h2
  have e : v = w := by omega
  subst e
  exact ltL_tri _ _ (b.lx l a.b.ap a.b.wt) (a.lx m b.b.ap b.b.wt)
theorem apart_is {L : Nat} {N : List Int} {z : Int} {l : List Nat} (hz : z = (L : Int)) (hL : 1 ≤ L) (hL2 : L ≤ 24) (hN : OkN N) (hl : l ∈ lotsF L N.length) (h : ∀ m ∈ lotsF L N.length, wt N m ≤ wt N l ∧ (wt N m = wt N l → ltL (cst m) (cst l) = false)) (S : Store) : g_hours_apart [.d (nD N), .d (.int z)] S = .ok (.d (rwD (cst l))) S := by
  obtain ⟨v, m, b, e⟩ := apart_ok hz hL hL2 hN S
  rw [bx_uniq b (bx_of hL hl h)] at e
  exact e
theorem n1_ok : OkN [3, 4, 3] := ⟨by decide, by decide, by decide⟩
theorem n2_ok : OkN [1, 1] := ⟨by decide, by decide, by decide⟩
theorem n3_ok : OkN [0, 0] := ⟨by decide, by decide, by decide⟩
theorem n4_ok : OkN [2, 2] := ⟨by decide, by decide, by decide⟩
theorem f1_ok : OkS [1, 0, 2] := ⟨by decide, by decide, by decide⟩
theorem f2_ok : OkS [1, 1] := ⟨by decide, by decide, by decide⟩
theorem k1 (S : Store) : g_hours_apart [.d (.tuple [.int 3, .int 4, .int 3]), .d (.int 2)] S = .ok (.d (.tuple [.int 0, .int 2])) S :=
  apart_is (L := 2) (N := [3, 4, 3]) (l := [0, 2]) rfl (by decide) (by decide) n1_ok (by decide +kernel) (by decide +kernel) S
theorem k2 (S : Store) : g_at_work [.d (.tuple [.int 1, .int 0, .int 2]), .d (.int 2)] S = .ok (.d (.tuple [.int 1, .int 1, .int 2])) S := by
  have := at_work_ok (L := 2) (z := 2) rfl (by decide) f1_ok S
  rw [show wk 2 [1, 0, 2] = [1, 1, 2] by decide +kernel] at this
  exact this
theorem k3 (S : Store) : g_over_hours [.d (.tuple [.int 1, .int 1]), .d (.tuple [.int 1, .int 1]), .d (.int 2)] S = .ok (.d (.int 1)) S := by
  have := over_ok (L := 2) (z := 2) rfl (by decide) n2_ok f2_ok rfl (by decide +kernel) S
  rw [show (wk 2 [1, 1]).sum - ([1, 1] : List Int).sum = 1 by decide +kernel] at this
  exact this
theorem k4 (S : Store) : g_hours_apart [.d (.tuple [.int 0, .int 0]), .d (.int 1)] S = .ok (.d (.tuple [])) S :=
  apart_is (L := 1) (N := [0, 0]) (l := []) rfl (by decide) (by decide) n3_ok (by decide +kernel) (by decide +kernel) S
theorem k5 (S : Store) : g_hours_apart [.d (.tuple [.int 2, .int 2]), .d (.int 2)] S = .ok (.d (.tuple [.int 0])) S :=
  apart_is (L := 2) (N := [2, 2]) (l := [0]) rfl (by decide) (by decide) n4_ok (by decide +kernel) (by decide +kernel) S
theorem ne_ev {f g : Ev} {ρ : Env} {S : Store} {d : D} (h1 : f ρ S = .ok (.d d) S) (h2 : g ρ S = .ok (.d d) S) (s : shal d = true) : tOf (eBin oNe f g) ρ S = .ok false S := by
  rw [ap_tOf, ap_eBin, h1, bind_ok, h2, bind_ok, oNe_same s]
  rfl
theorem t1_okL (ρ : Env) (S : Store) : t1_law ρ S = .nx ρ S := by
  have c1 := call2k (ρ := ρ) (S := S) (e1 := eTup (aCons (eD (.int 3)) (aCons (eD (.int 4)) (aCons (eD (.int 3)) aNil)))) (e2 := eD (.int 2)) rfl rfl (k1 S)
  have c2 := call2k (ρ := ρ) (S := S) (e1 := eTup (aCons (eD (.int 1)) (aCons (eD (.int 0)) (aCons (eD (.int 2)) aNil)))) (e2 := eD (.int 2)) rfl rfl (k2 S)
  have a1 := ne_ev (g := eTup (aCons (eD (.int 0)) (aCons (eD (.int 2)) aNil))) c1 rfl rfl
  have a2 := ne_ev (g := eTup (aCons (eD (.int 1)) (aCons (eD (.int 1)) (aCons (eD (.int 2)) aNil)))) c2 rfl rfl
  rw [t1_law, ap_sIf, ap_tOr, a1, bind_ok, if_neg (by decide), a2]
  rfl
theorem t2_okL (ρ : Env) (S : Store) : t2_law ρ S = .nx ρ S := by
  have t : eTup (aCons (eD (.int 1)) (aCons (eD (.int 1)) aNil)) ρ S = .ok (.d (.tuple [.int 1, .int 1])) S := rfl
  have c : eCallN 3 g_over_hours (aCons (eTup (aCons (eD (.int 1)) (aCons (eD (.int 1)) aNil))) (aCons (eTup (aCons (eD (.int 1)) (aCons (eD (.int 1)) aNil))) (aCons (eD (.int 2)) aNil))) ρ S = .ok (.d (.int 1)) S := by
    rw [ap_eCallN, aC t (aC t (aC (f := eD (.int 2)) rfl aN)), bind_ok, if_pos (show [Vl.d (.tuple [.int 1, .int 1]), Vl.d (.tuple [.int 1, .int 1]), Vl.d (.int 2)].length = 3 from rfl), k3]
  have a1 := ne_ev (g := eD (.int 1)) c rfl rfl
  rw [t2_law, ap_sIf, a1]
  rfl
theorem t3_okL (ρ : Env) (S : Store) : t3_law ρ S = .nx ρ S := by
  have c1 := call2k (ρ := ρ) (S := S) (e1 := eTup (aCons (eD (.int 0)) (aCons (eD (.int 0)) aNil))) (e2 := eD (.int 1)) rfl rfl (k4 S)
  have c2 := call2k (ρ := ρ) (S := S) (e1 := eTup (aCons (eD (.int 2)) (aCons (eD (.int 2)) aNil))) (e2 := eD (.int 2)) rfl rfl (k5 S)
  have a1 := ne_ev (g := eTup aNil) c1 rfl rfl
  have a2 := ne_ev (g := eTup (aCons (eD (.int 0)) aNil)) c2 rfl rfl
  rw [t3_law, ap_sIf, ap_tOr, a1, bind_ok, if_neg (by decide), a2]
  rfl
theorem lap_ok (ns : List Int) {m : MO} {x2 x3 : Option Vl} (H : IsHand m) : ∃ m' y3, IsHand m' ∧ l0_law [some (.scr ns), some (.loc 0), x2, x3] [m] = .nx [some (.scr ns), some (.loc 0), x2, y3] [m'] := by
  obtain ⟨N, m2, hN, hn, H2, e2⟩ := needs_ok (R := []) (most := 10) (by omega) H
  obtain ⟨c, m3, hc, H3, e3⟩ := some_ok (xs := [.int 4, .int 24]) (R := []) (by simp) (by simp) H2
  obtain ⟨tp, rfl, t0, t1⟩ : ∃ u : Int, c = .int u ∧ 1 ≤ u ∧ u ≤ 24 := by
    simp at hc
    rcases hc with rfl | rfl <;> exact ⟨_, rfl, by decide, by decide⟩
  obtain ⟨r, m4, r0, r1, H4, e4⟩ := draw_ok tp m3 [] (by omega) (by omega) H3
  obtain ⟨m5, H5, e5⟩ := right_ok (R := []) (z := 1 + r) (L := (1 + r).toNat) (by omega) (by omega) hN (by omega) H4
  obtain ⟨m6, H6, e6⟩ := refused_ok hN (by omega) H5
  refine ⟨m6, some (.d (nD N)), H6, ?_⟩
  generalize nD N = C at *
  have s0 : sSet 3 (eCallN 2 g__law_needs (aCons (eVar 1) (aCons (eD (.int 10)) aNil))) [some (.scr ns), some (.loc 0), x2, x3] [m] = .nx [some (.scr ns), some (.loc 0), x2, some (.d C)] [m2] := by
    rw [ap_sSet, call2k' (e1 := eVar 1) (e2 := eD (.int 10)) rfl rfl e2]
    rfl
  have a1 : eCallN 2 g__law_any (aCons (eVar 1) (aCons (eLst false (aCons (eD (.int 4)) (aCons (eD (.int 24)) aNil))) aNil)) [some (.scr ns), some (.loc 0), x2, some (.d C)] [m2] = .ok (.d (.int tp)) [m3] :=
    call2k' (e1 := eVar 1) (v1 := .loc 0) (v2 := .d (.list [.int 4, .int 24])) rfl rfl e3
  have a2 : eCallN 2 g__law_draw (aCons (eVar 1) (aCons (eCallN 2 g__law_any (aCons (eVar 1) (aCons (eLst false (aCons (eD (.int 4)) (aCons (eD (.int 24)) aNil))) aNil))) aNil)) [some (.scr ns), some (.loc 0), x2, some (.d C)] [m2] = .ok (.d (.int r)) [m4] := by
    rw [ap_eCallN, aC (f := eVar 1) (v := .loc 0) (S1 := [m2]) rfl (aC a1 aN), bind_ok, if_pos (show [Vl.loc 0, Vl.d (.int tp)].length = 2 from rfl), e4]
  have a3 : eBin (oAdd false) (eD (.int 1)) (eCallN 2 g__law_draw (aCons (eVar 1) (aCons (eCallN 2 g__law_any (aCons (eVar 1) (aCons (eLst false (aCons (eD (.int 4)) (aCons (eD (.int 24)) aNil))) aNil))) aNil))) [some (.scr ns), some (.loc 0), x2, some (.d C)] [m2] = .ok (.d (.int (1 + r))) [m4] := by
    rw [ap_eBin, ap_eD, bind_ok, a2, bind_ok]
    simp
  have a4 : eCallN 3 g__law_is_right (aCons (eVar 1) (aCons (eVar 3) (aCons (eBin (oAdd false) (eD (.int 1)) (eCallN 2 g__law_draw (aCons (eVar 1) (aCons (eCallN 2 g__law_any (aCons (eVar 1) (aCons (eLst false (aCons (eD (.int 4)) (aCons (eD (.int 24)) aNil))) aNil))) aNil)))) aNil))) [some (.scr ns), some (.loc 0), x2, some (.d C)] [m2] = .ok (.d (.bool true)) [m5] := by
    rw [ap_eCallN, aC (f := eVar 1) (v := .loc 0) (S1 := [m2]) rfl (aC (f := eVar 3) (v := .d C) (S1 := [m2]) rfl (aC a3 aN)), bind_ok, if_pos (show [Vl.loc 0, Vl.d C, Vl.d (.int (1 + r))].length = 3 from rfl), e5]
  have a5 : eCallN 2 g__law_are_refused (aCons (eVar 1) (aCons (eVar 3) aNil)) [some (.scr ns), some (.loc 0), x2, some (.d C)] [m5] = .ok (.d (.bool true)) [m6] :=
    call2k' (e1 := eVar 1) (e2 := eVar 3) rfl rfl e6
  rw [l0_law, ap_sCons, s0, seq_nx, ap_sCons, ap_sIf, ap_tNot, ap_tOf, a4]
  show SRes.seq (SRes.nx _ _) _ = _
  rw [seq_nx, ap_sIf, ap_tNot, ap_tOf, a5]
  rfl
theorem laps (ns : List Int) : ∀ (xs : List D) (m : MO) (x2 x3 : Option Vl), IsHand m → ∃ m' y2 y3, IsHand m' ∧ forL (gN 2) l0_law xs [some (.scr ns), some (.loc 0), x2, x3] [m] = .nx [some (.scr ns), some (.loc 0), y2, y3] [m'] := by
  intro xs
  induction xs with
  | nil => exact fun m x2 x3 H => ⟨m, x2, x3, H, rfl⟩
  | cons x xs ih =>
    intro m x2 x3 H
    obtain ⟨m1, y3, H1, e1⟩ := lap_ok ns (x2 := some (.d x)) (x3 := x3) H
    obtain ⟨m2, z2, z3, H2, e2⟩ := ih m1 (some (.d x)) y3 H1
    refine ⟨m2, z2, z3, H2, ?_⟩
    rw [ap_forL1, ap_gN]
    simp only [List.set_cons_succ, List.set_cons_zero]
    rw [e1]
    exact e2
theorem law_true (ns : List Int) (h : ns.length ≤ 63) : ∃ S, g_law [.scr ns] [] = .ok (.d (.bool true)) S := by
  obtain ⟨m, H, e⟩ := hand_ok ns h
  have a0 : t0_law [some (.scr ns), none, none, none] [] = .nx [some (.scr ns), some (.loc 0), none, none] [m] := by
    simp [t0_law, e]
  obtain ⟨m', y2, y3, H', fl⟩ := laps ns (rangeD 0 6) m none none H
  have it : ∀ ρ S, iRange (aCons (eD (.int 6)) aNil) ρ S = .ok (rangeD 0 6) S := fun ρ S => iRange_1 (by simp) (by omega) (by omega)
  have key : b_law [some (.scr ns), none, none, none] [] = .ret (.d (.bool true)) [m'] := by
    rw [b_law, ap_sCons, a0, seq_nx, ap_sCons, t1_okL, seq_nx, ap_sCons, t2_okL, seq_nx, ap_sCons, t3_okL, seq_nx, ap_sCons, t4_law, ap_sFor, it, st_ok, fl, seq_nx]
    rfl
  exact ⟨_, fn_ret (n := 4) (sb := b_law) (vs := [.scr ns]) key⟩
end Dl
open PySem.W PyProof.Rows PySem
set_option maxHeartbeats 0 in
theorem PySem.Challenge.cw_airfield_k38_whole_hours_apart_and_at_wo_holds : PySem.Challenge.rw_airfield_k38_whole_hours_apart_and_at_wo.Holds := by
  w_on; o_law; k_head; (case hw => w_witness2)
  k_fill
  refine Dl.walk_fkT (l := PySem.Challenge.rw_airfield_k38_whole_hours_apart_and_at_wo) (n := 63) (k := 10) (x := "script") (g := Dl.g_law) rfl (by decide) rfl ⟨rfl, by decide, by decide⟩ (fun w h Y => PySem.W.km_in_of Y) ?F Dl.law_true
  case F =>
    intro w mg fa h KX G hmg TT
    refine' Dl.law_use (x := "law") (y := "law") (st := Dl.s_law) (p := "script") KX G hmg ?a ?l ?b (fun fd same bind => ?_); (case a => k_is); (case l => k_is); (case b => exact fun _ _ _ _ _ _ s v => .of_eq rfl)
    refine' Dl.tab_use (x := "_law_are_refused") TT rfl ?a ?l ?c ?lc ?v ?n (fun t_0 n_0 => ?_); (case a => k_is); (case l => k_is); (case c => exact rfl); (case lc => k_is); (case v => exact rfl); (case n => exact rfl)
    refine ⟨fd, [((_, _), ("_law_are_refused" ++ ".<locals>." ++ "<lambda>" : Str))], (List.forall_mem_cons.mpr ⟨t_0, (fun _ z => nomatch z)⟩), (List.forall_mem_cons.mpr ⟨n_0, (fun _ z => nomatch z)⟩), bind, fun base KB GB TB => ?_⟩
    refine Dl.ok_law (base := base) ⟨?_, ?_, ?_, ?_, ?_, ?_, ?_, ?_, ?_, ?_, ?_, ?_, ?_, ?_, ?_, ?_, ?_, ?_, ?_, ?_, ?_, ?_, ?_, ?_, ?_, ?_, ?_, ?_, ?_, ?_, ?_, ?_, ?_, ?_, ?_, ?_, ?_, ?_, ?_, ?_, ?_, ?_, ?_, ?_, ?_, ?_, ?_, ?_, ?_, ?_, ?_, ?_, ?_, ?_, ?_, ?_, ?_, ?_, ?_, ?_⟩ hmg same
    · refine' Dl.DefF.mk' KX G ?a ?l ?c ?k; (case a => k_is); (case l => k_is); (case c => k_is); (case k => k_is)
    · refine' Dl.DefF.mk' KX G ?a ?l ?c ?k; (case a => k_is); (case l => k_is); (case c => k_is); (case k => k_is)
    · refine' Dl.DefF.mk' KX G ?a ?l ?c ?k; (case a => k_is); (case l => k_is); (case c => k_is); (case k => k_is)
    · refine' Dl.DefF.mk' KX G ?a ?l ?c ?k; (case a => k_is); (case l => k_is); (case c => k_is); (case k => k_is)
    · refine' Dl.DefF.mk' KX G ?a ?l ?c ?k; (case a => k_is); (case l => k_is); (case c => k_is); (case k => k_is)
    · refine' Dl.DefF.mk' KX G ?a ?l ?c ?k; (case a => k_is); (case l => k_is); (case c => k_is); (case k => k_is)
    · refine' Dl.DefF.mk' KX G ?a ?l ?c ?k; (case a => k_is); (case l => k_is); (case c => k_is); (case k => k_is)
    · refine' Dl.DefF.mk' KX G ?a ?l ?c ?k; (case a => k_is); (case l => k_is); (case c => k_is); (case k => k_is)
    · refine' Dl.DefF.mk' KX G ?a ?l ?c ?k; (case a => k_is); (case l => k_is); (case c => k_is); (case k => k_is)
    · refine' Dl.DefF.mk' KX G ?a ?l ?c ?k; (case a => k_is); (case l => k_is); (case c => k_is); (case k => k_is)
    · refine' Dl.DefF.mk' KX G ?a ?l ?c ?k; (case a => k_is); (case l => k_is); (case c => k_is); (case k => k_is)
    · refine' Dl.DefF.mk' KX G ?a ?l ?c ?k; (case a => k_is); (case l => k_is); (case c => k_is); (case k => k_is)
    · refine' Dl.DefF.mk' KX G ?a ?l ?c ?k; (case a => k_is); (case l => k_is); (case c => k_is); (case k => k_is)
    · refine' Dl.DefF.mk' KX G ?a ?l ?c ?k; (case a => k_is); (case l => k_is); (case c => k_is); (case k => k_is)
    · refine' Dl.DefF.mk' KX G ?a ?l ?c ?k; (case a => k_is); (case l => k_is); (case c => k_is); (case k => k_is)
    · refine' Dl.DefF.mk' KX G ?a ?l ?c ?k; (case a => k_is); (case l => k_is); (case c => k_is); (case k => k_is)
    · refine' Dl.DefF.mk' KX G ?a ?l ?c ?k; (case a => k_is); (case l => k_is); (case c => k_is); (case k => k_is)
    · refine' Dl.DefF.mk' KX G ?a ?l ?c ?k; (case a => k_is); (case l => k_is); (case c => k_is); (case k => k_is)
    · refine' Dl.DefF.mk' KX G ?a ?l ?c ?k; (case a => k_is); (case l => k_is); (case c => k_is); (case k => k_is)
    · refine' Dl.DefF.mk' KX G ?a ?l ?c ?k; (case a => k_is); (case l => k_is); (case c => k_is); (case k => k_is)
    · refine' Dl.DefF.mk' KX G ?a ?l ?c ?k; (case a => k_is); (case l => k_is); (case c => k_is); (case k => k_is)
    · refine' Dl.DefF.mk' KX G ?a ?l ?c ?k; (case a => k_is); (case l => k_is); (case c => k_is); (case k => k_is)
    · refine' Dl.DefF.mk' KX G ?a ?l ?c ?k; (case a => k_is); (case l => k_is); (case c => k_is); (case k => k_is)
    · refine' Dl.DefF.mk' KX G ?a ?l ?c ?k; (case a => k_is); (case l => k_is); (case c => k_is); (case k => k_is)
    · refine' Dl.DefF.mk' KX G ?a ?l ?c ?k; (case a => k_is); (case l => k_is); (case c => k_is); (case k => k_is)
    · refine' Dl.DefF.mk' KX G ?a ?l ?c ?k; (case a => k_is); (case l => k_is); (case c => k_is); (case k => k_is)
    · refine' Dl.DefF.mk' KX G ?a ?l ?c ?k; (case a => k_is); (case l => k_is); (case c => k_is); (case k => k_is)
    · refine' Dl.DefF.mk' KX G ?a ?l ?c ?k; (case a => k_is); (case l => k_is); (case c => k_is); (case k => k_is)
    · refine' Dl.DefF.mk' KX G ?a ?l ?c ?k; (case a => k_is); (case l => k_is); (case c => k_is); (case k => k_is)
    · refine' Dl.DefF.mk' KX G ?a ?l ?c ?k; (case a => k_is); (case l => k_is); (case c => k_is); (case k => k_is)
    · refine' Dl.DefL.mk' KX G (TB _ (.head _)) ?a ?l ?c ?k (.head _) (List.forall_mem_cons.mpr ⟨(fun _ => rfl), (fun _ z => nomatch z)⟩); (case a => k_is); (case l => k_is); (case c => k_is); (case k => k_is)
    · refine' Dl.DefF.mk' KX G ?a ?l ?c ?k; (case a => k_is); (case l => k_is); (case c => k_is); (case k => k_is)
    · refine' Dl.IsF.cls' KX G (by decide) [("NoNeeds", true), ("NoNumber", false), ("NoStarts", false)] ?a ?_; (case a => k_is)
      (refine' Dl.is_cons ?a ?k ?e1 ?e2 ?e3 ?e4 ?e5 ?e6 ?e7 ?e8 ?_; (case a => k_is); (case k => kit_is); (case e1 => k_is); (case e2 => k_is); (case e3 => k_is); (case e4 => k_is); (case e5 => k_is); (case e6 => k_is); (case e7 => k_is); (case e8 => k_is))
      (refine' Dl.is_cons ?a ?k ?e1 ?e2 ?e3 ?e4 ?e5 ?e6 ?e7 ?e8 ?_; (case a => k_is); (case k => kit_is); (case e1 => k_is); (case e2 => k_is); (case e3 => k_is); (case e4 => k_is); (case e5 => k_is); (case e6 => k_is); (case e7 => k_is); (case e8 => k_is))
      (refine' Dl.is_cons ?a ?k ?e1 ?e2 ?e3 ?e4 ?e5 ?e6 ?e7 ?e8 ?_; (case a => k_is); (case k => kit_is); (case e1 => k_is); (case e2 => k_is); (case e3 => k_is); (case e4 => k_is); (case e5 => k_is); (case e6 => k_is); (case e7 => k_is); (case e8 => k_is))
      exact Dl.is_nil
    · refine' Dl.IsF.cls' KX G (by decide) [("NoNeeds", false), ("NoNumber", true), ("NoStarts", false)] ?a ?_; (case a => k_is)
      (refine' Dl.is_cons ?a ?k ?e1 ?e2 ?e3 ?e4 ?e5 ?e6 ?e7 ?e8 ?_; (case a => k_is); (case k => kit_is); (case e1 => k_is); (case e2 => k_is); (case e3 => k_is); (case e4 => k_is); (case e5 => k_is); (case e6 => k_is); (case e7 => k_is); (case e8 => k_is))
      (refine' Dl.is_cons ?a ?k ?e1 ?e2 ?e3 ?e4 ?e5 ?e6 ?e7 ?e8 ?_; (case a => k_is); (case k => kit_is); (case e1 => k_is); (case e2 => k_is); (case e3 => k_is); (case e4 => k_is); (case e5 => k_is); (case e6 => k_is); (case e7 => k_is); (case e8 => k_is))
      (refine' Dl.is_cons ?a ?k ?e1 ?e2 ?e3 ?e4 ?e5 ?e6 ?e7 ?e8 ?_; (case a => k_is); (case k => kit_is); (case e1 => k_is); (case e2 => k_is); (case e3 => k_is); (case e4 => k_is); (case e5 => k_is); (case e6 => k_is); (case e7 => k_is); (case e8 => k_is))
      exact Dl.is_nil
    · refine' Dl.IsF.cls' KX G (by decide) [("NoNeeds", false), ("NoNumber", false), ("NoStarts", true)] ?a ?_; (case a => k_is)
      (refine' Dl.is_cons ?a ?k ?e1 ?e2 ?e3 ?e4 ?e5 ?e6 ?e7 ?e8 ?_; (case a => k_is); (case k => kit_is); (case e1 => k_is); (case e2 => k_is); (case e3 => k_is); (case e4 => k_is); (case e5 => k_is); (case e6 => k_is); (case e7 => k_is); (case e8 => k_is))
      (refine' Dl.is_cons ?a ?k ?e1 ?e2 ?e3 ?e4 ?e5 ?e6 ?e7 ?e8 ?_; (case a => k_is); (case k => kit_is); (case e1 => k_is); (case e2 => k_is); (case e3 => k_is); (case e4 => k_is); (case e5 => k_is); (case e6 => k_is); (case e7 => k_is); (case e8 => k_is))
      (refine' Dl.is_cons ?a ?k ?e1 ?e2 ?e3 ?e4 ?e5 ?e6 ?e7 ?e8 ?_; (case a => k_is); (case k => kit_is); (case e1 => k_is); (case e2 => k_is); (case e3 => k_is); (case e4 => k_is); (case e5 => k_is); (case e6 => k_is); (case e7 => k_is); (case e8 => k_is))
      exact Dl.is_nil
    · refine' Dl.IsF.blt' (T := "ValueError") KX G (by decide) (by decide) (by decide +kernel) [("NoNeeds", true), ("NoNumber", true), ("NoStarts", true)] ?a ?_; (case a => k_is)
      (refine' Dl.is_cons ?a ?k ?e1 ?e2 ?e3 ?e4 ?e5 ?e6 ?e7 ?e8 ?_; (case a => k_is); (case k => kit_is); (case e1 => k_is); (case e2 => k_is); (case e3 => k_is); (case e4 => k_is); (case e5 => k_is); (case e6 => k_is); (case e7 => k_is); (case e8 => k_is))
      (refine' Dl.is_cons ?a ?k ?e1 ?e2 ?e3 ?e4 ?e5 ?e6 ?e7 ?e8 ?_; (case a => k_is); (case k => kit_is); (case e1 => k_is); (case e2 => k_is); (case e3 => k_is); (case e4 => k_is); (case e5 => k_is); (case e6 => k_is); (case e7 => k_is); (case e8 => k_is))
      (refine' Dl.is_cons ?a ?k ?e1 ?e2 ?e3 ?e4 ?e5 ?e6 ?e7 ?e8 ?_; (case a => k_is); (case k => kit_is); (case e1 => k_is); (case e2 => k_is); (case e3 => k_is); (case e4 => k_is); (case e5 => k_is); (case e6 => k_is); (case e7 => k_is); (case e8 => k_is))
      exact Dl.is_nil
    · refine' Dl.TryF.mk' KX G [("NoNeeds", true), ("NoNumber", true), ("NoStarts", true)] ?a ?_; (case a => k_is)
      (refine' Dl.tr_cons ?a ?k ?_; (case a => k_is); (case k => kts_exm))
      (refine' Dl.tr_cons ?a ?k ?_; (case a => k_is); (case k => kts_exm))
      (refine' Dl.tr_cons ?a ?k ?_; (case a => k_is); (case k => kts_exm))
      exact Dl.tr_nil
    · refine' PySem.W.mg_none_of KX G ?z; (case z => k_is)
    · refine' PySem.W.mg_none_of KX G ?z; (case z => k_is)
    · refine' PySem.W.mg_none_of KX G ?z; (case z => k_is)
    · refine' PySem.W.mg_none_of KX G ?z; (case z => k_is)
    · refine' PySem.W.mg_none_of KX G ?z; (case z => k_is)
    · refine' PySem.W.mg_none_of KX G ?z; (case z => k_is)
    · refine' PySem.W.mg_none_of KX G ?z; (case z => k_is)
    · refine' PySem.W.mg_none_of KX G ?z; (case z => k_is)
    · refine' PySem.W.mg_none_of KX G ?z; (case z => k_is)
    · refine' PySem.W.mg_none_of KX G ?z; (case z => k_is)
    · refine' PySem.W.mg_none_of KX G ?z; (case z => k_is)
    · refine' PySem.W.mg_none_of KX G ?z; (case z => k_is)
    · refine' PySem.W.mg_none_of KX G ?z; (case z => k_is)
    · refine' PySem.W.mg_none_of KX G ?z; (case z => k_is)
    · refine' PySem.W.mg_none_of KX G ?z; (case z => k_is)
    · refine' PySem.W.mg_none_of KX G ?z; (case z => k_is)
    · refine' PySem.W.mg_none_of KX G ?z; (case z => k_is)
    · refine' Dl.ExF.mk' KX G ?a ?b ?c ?d ?e; (case a => k_is); (case b => k_exc); (case c => k_is); (case d => k_is); (case e => k_is)
    · refine' Dl.ExF.mk' KX G ?a ?b ?c ?d ?e; (case a => k_is); (case b => k_exc); (case c => k_is); (case d => k_is); (case e => k_is)
    · refine' Dl.ExF.mk' KX G ?a ?b ?c ?d ?e; (case a => k_is); (case b => k_exc); (case c => k_is); (case d => k_is); (case e => k_is)
    · refine' Dl.IntF.mk' KX G ?a; (case a => k_is)
    · refine' Dl.IntF.mk' KX G ?a; (case a => k_is)
    · refine' Dl.IntF.mk' KX G ?a; (case a => k_is)
