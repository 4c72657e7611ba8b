import PyProof.Rows.All
import Wide.All
import OpenK.AllK
import Wide.FinOn
import HandS.ForMost
import HandS.Exc
import HandS.TryOnly
import HandS.ExcOwn
import HandS.WordsExc
import HandS.TupAny
import HandS.Zip
import HandS.Style
import HandS.Wide
import HandS.TupMul
import HandS.IsInst
import HandS.Deep
import HandS.Lambda
import KE.DataCmp
import KE.DataEq
import KE.DataFind
import KE.DataIsa
import KE.DataMinMax
import KE.DataAny
import KE.SortData
import HandS.Walk
import HandS.Flow
import HandS.HeadHook1
import KE.GoesEnum
import HandS.ExcIs
import KE.KDflt
import HandS.EndTab
import KE.KNest
import HandS.Dict
import KE.RegKTryMore
import KE.RegKIsAll
import KE.GoesZip
import KE.GoesMore
import HandS.Iter
import PySem.Challenge.RW_airfield_k77_whole_heights_kept_apart
set_option Elab.async false
set_option linter.all false
set_option maxRecDepth 100000
set_option maxHeartbeats 5000000
namespace Dl
open PySem.Spec PyProof.Rows PySem L2
structure Fk (P : Program) (w : World) (K : PySem.W.Frag) (mg : Str → Option Value) (base : Heap) (k : Nat) (f : Addr) (fd : FuncData) (ps : List Str) (sp : Sp) : Prop where
  many : ∀ vs H Q E, sp vs H Q E → vs.length = ps.length
  go : ∀ (B : Around) (fs : List PySem.Env) (s : Shared) (H : Hp) (as : Args) (us : List Value) (vs : List V) (Q : VK) (E : XK), Room k B → B.guards = some [] → Env0 P w K mg base B fs s H → BindsTo s fd as (ps.zip us) → Vals vs us → sp vs H Q E →
    codeAny (model P w) B (.call (.ref f) as) (CR (L2.CX P w) fs P w H s Q E) s
variable {P : Program} {w : World} {K : PySem.W.Frag} {mg : Str → Option Value} {base : Heap}
theorem Fk.mono {j k : Nat} {f : Addr} {fd : FuncData} {ps : List Str} {sp : Sp} (F : Fk P w K mg base j f fd ps sp) (h : j ≤ k) : Fk P w K mg base k f fd ps sp :=
  ⟨F.many, fun B fs s H as us vs Q E r => F.go B fs s H as us vs Q E (r.mono h)⟩
theorem fk_of {x q : Str} {st : Stmt} {f : Addr} {fd : FuncData} {N ps : List Str} {k : Nat} {sp : Sp} (F : Fun K x q st f fd) (S : FnScope N ps (defScope st)) (many : ∀ vs H Q E, sp vs H Q E → vs.length = ps.length)
    (body : ∀ (cdv : Value), fd.code = cdv → ∀ (B : Around) (fs : List PySem.Env) (s : Shared) (H : Hp) (vs : List V) (Q : VK) (E : XK), Room k (B.deeper (envOfC q (defScope st) s.heap.objs.size f cdv)) → B.guards = some [] → sp vs H Q E →
      ∃ t, PSs (cxOf (L2.CX P w) P w K mg base N q (defScope st) f cdv B fs s H E) (defBody st) t ∧ t { nx := fun _ H2 => Q .non H2, rt := Q } (start N vs) H) : Fk P w K mg base (k + 1) f fd ps sp := by
  obtain ⟨oc, od, kV, doc, pm, an, cdv, ct, osl, rfl, look, code⟩ := F.ex
  refine ⟨many, fun B fs s H as us vs Q E room gd env bind vals prom => ?_⟩
  have ln := many _ _ _ _ prom
  have inK : K.In s.heap := env.mod.kin.keeps fun b o e => (env.bs b o e).1
  have noLim : s.heap.NoLimit := env.mod.nolimit.keeps fun b o e => (env.bs b o e).1
  refine codeAny_call_function room.depth (inK _ _ look) rfl S.co S.gen rfl (PySem.W.codeRec_of inK code) (bind _ _ _ _ ?_)
  refine wpAny_newFunctionEnv_cells S.kind (fun y hy => ?_) fun ev hev s1 ic => ?_
  · have par := S.par y.1 (List.of_mem_zip (show (y.1, y.2) ∈ ps.zip us from hy)).1
    exact par.imp (fun l => l) fun c => ⟨c, PySem.W.cellsFrom_some _ _ _ (.inl c)⟩
  · subst hev
    refine ⟨noLim.keeps ic.toInCall.keep, codeAny_func ?_⟩
    obtain ⟨t, pss, tq⟩ := body cdv rfl B fs s H vs Q E (room.deeper _) gd prom
    have J := inv_start (CX := L2.CX P w) (E := E) S room.hd env ln vals ic
    refine wpAny_mono (pss.run [] s1 (start N vs) H _ J tq) (fun fl s2 done => ?_) fun _ _ out => out
    cases fl with
    | ret u =>
      obtain ⟨v, σ2, H2, J2, rv, q2⟩ := done
      exact ⟨v, H2, J2.os, J2.bare, J2.base, J2.hok, rv, q2⟩
    | next =>
      obtain ⟨σ2, H2, J2, q2⟩ := done
      exact ⟨.non, H2, J2.os, J2.bare, J2.base, J2.hok, rfl, q2⟩
    | brk =>
      obtain ⟨_, _, _, z⟩ := done
      exact (show False from z).elim
    | cont =>
      obtain ⟨_, _, _, z⟩ := done
      exact (show False from z).elim
section
variable {X : Cx} {k : Nat} {f : Addr} {fd : FuncData} {ps : List Str} {sp : Sp} {W : WX}
theorem run_fk {pins : List (Addr × Obj)} {σ : L2.St} {H : Hp} {s : Shared} {Q : VK} {us : List Value} {vs : List V} (G : Fk X.prog X.w X.K X.mg X.base k f fd ps sp) (room : Room k X.A) (gd : X.A.guards = some []) (bi : Binds X.K fd ps []) (tk : Takes X W)
    (J : Inv X pins σ H s) (r : Vals vs us) (prom : sp vs H Q fun c d H2 => W c d σ H2) : wpAny (model X.prog X.w) X.A (call (.ref f) us) (EP X pins σ Q) X.xe s := by
  have ln : us.length = ps.length := r.length.symm.trans (G.many _ _ _ _ prom)
  have bd := bi s us J.kIn (by rw [List.append_nil]; exact ln)
  rw [List.append_nil] at bd
  refine wpAny_call (codeAny_mono (G.go X.A X.stack s H ⟨us, []⟩ us vs Q _ room gd J.env0 bd r prom) fun res s2 done => ?_)
  cases res with
  | error e => exact tk e s2 (XE.of_call J (fun _ _ _ z => z) done)
  | ok fl =>
    cases fl with
    | ret u => exact J.after done
    | next => exact done.elim
    | brk => exact done.elim
    | cont => exact done.elim
theorem pe_callk {x : Str} {p pos : Pos} {e : Expr} {es : List Expr} {t : TA} (G : Fk X.prog X.w X.K X.mg X.base k f fd ps sp) (room : Room k X.A) (gd : X.A.guards = some []) (tk : Takes X W) (glob : Gl X x) (there : X.mg x = some (.ref f)) (keep : PySem.W.keepIn X.K (.ref f) = true)
    (bi : Binds X.K fd ps []) (ha : PA X (e :: es) t) (nd : (x == ("__debug__" : Str)) = false := by decide) (h1 : starEach (e :: es) X.env = (false, eval e X.env) :: starEach es X.env := by rfl) (h2 : (backTo pos (starEach es X.env)).any (·.1) = false := by rfl) :
    PE X (.Call (.Name x p) (e :: es) [] pos) (fun σ H Q => t σ H fun vs H1 => sp vs H1 Q fun c d H2 => W c d σ H2) := ⟨fun pins s σ H Q J h =>
  wpAny_Call_Name_kw (ld_glob J glob there (PySem.W.callWith_K (h₀ := X.base) J.ok.mod.kin keep (thn (ha.run pos pins s σ H _ J h) fun us s1 ⟨vs, H1, J1, r, q⟩ => ⟨J1.kIn, run_fk G room gd bi tk J1 r q⟩) h1 h2) nd)⟩
theorem pe_callk0 {x : Str} {p pos : Pos} (G : Fk X.prog X.w X.K X.mg X.base k f fd ps sp) (room : Room k X.A) (gd : X.A.guards = some []) (tk : Takes X W) (glob : Gl X x) (there : X.mg x = some (.ref f)) (keep : PySem.W.keepIn X.K (.ref f) = true)
    (bi : Binds X.K fd ps []) (nd : (x == ("__debug__" : Str)) = false := by decide) : PE X (.Call (.Name x p) [] [] pos) (fun σ H Q => sp [] H Q fun c d H2 => W c d σ H2) := ⟨fun pins s σ H Q J h =>
  wpAny_Call_Name_kw (ld_glob J glob there (PySem.W.callWith_K0 J.kIn keep (run_fk (us := []) G room gd bi tk J .nil h)) nd)⟩
end
theorem law_at {k : Nat} {fa a : Addr} {fd : FuncData} {x : Str} {sp : Sp} {s : Shared} {mb : Str → Option Value} {ob : Obj} {H : Hp} (inK : K.In s.heap) (ns : s.heap.Ns mainGlobals mg) (nb : s.heap.Ns builtinsNs mb) (bb : ∀ x : Str, x ≠ "__name__" → mb x = bootBuiltins x)
    (lim : s.heap.NoLimit) (gn : s.gens = #[]) (at_ : s.heap.get? a = some ob) (lst : ∀ es ep, ob.data ≠ .dict es ep) (room : Room k callerA) (F : ∀ base : Heap, K.In base → base.Ns mainGlobals mg → Fk P w K mg base k fa fd [x] sp) (bind : ∀ (s : Shared) (u : Value), BindsTo s fd ⟨[u], []⟩ [(x, u)])
    (hok : HOk P w H s.heap) (only : ∀ b, H b ≠ none → b = a) (fz : H a ≠ none → K.lookup a = none ∧ ∃ u, H a = some (.frz ob u)) (prom : sp [.ref a] H (fun v _ => v = .bl true) fun _ _ _ => False) :
    codeAny (model P w) callerA (.call (.ref fa) ⟨[.ref a], []⟩) (fun r s' => r = .ok (.ret (.bool true)) ∧ OldK s.heap s'.heap ∧ s'.os = s.os ∧ AllBare s'.gens) s := by
  have free : ∀ {b : Addr} {o : Obj}, b ≠ a → H b = none := fun {b _} nb => by
    cases q : H b with
    | none => rfl
    | some u => exact absurd (only b (by rw [q]; simp)) nb
  have dictFree : ∀ {b : Addr} {o : Obj} {es : Array DictEntry} {ep : Nat}, s.heap.get? b = some o → o.data = .dict es ep → H b = none := fun {b o es ep} e d => by
    by_cases z : b = a
    · subst z
      rw [at_] at e
      cases e
      exact absurd d (lst es ep)
    · exact free (o := o) z
  have kFree : ∀ b o, K.lookup b = some o → H b = none := fun b o e => by
    by_cases z : b = a
    · subst z
      cases q : H b with
      | none => rfl
      | some u => rw [(fz (by rw [q]; simp)).1] at e; cases e
    · exact free (o := o) z
  have nsUp : ∀ {b : Addr} {m : Str → Option Value}, s.heap.Ns b m → (hidT s.heap H).Ns b m := fun {b m} ⟨o, es, ep, e, d, r⟩ => ⟨o, es, ep, hidT_get e (dictFree e d), d, r⟩
  have kBase : K.In (hidT s.heap H) := fun b o e => hidT_get (inK b o e) (kFree b o e)
  have md : Mod K mg (hidT s.heap H) := ⟨kBase, nsUp ns, ⟨mb, nsUp nb, bb⟩, lim.imp fun _ z => ⟨nsUp z.1, z.2⟩⟩
  have env : Env0 P w K mg (hidT s.heap H) callerA [] s H := ⟨rfl, md, fun b o e => of_hidT e, Nat.le_of_eq (hidT_size _ _), trivial, fun b hb => absurd (show b ∈ ([] : List Addr) from hb) (by simp), hok, .of_eq gn⟩
  refine codeAny_mono ((F _ kBase (nsUp ns)).go callerA [] s H ⟨[.ref a], []⟩ [.ref a] [.ref a] _ _ room rfl env (bind s (.ref a)) (.cons rfl .nil) prom) fun r s2 done => ?_
  cases r with
  | error e =>
    obtain ⟨_, _, _, _, _, _, _, _, _, _, _, _, z⟩ := (show L2.CX P w [] H s (fun _ _ _ => False) e s2 from done)
    exact z.elim
  | ok fl =>
    cases fl with
    | next => exact (show False from done).elim
    | brk => exact (show False from done).elim
    | cont => exact (show False from done).elim
    | ret u =>
      obtain ⟨v, H2, os2, bare2, un, hok2, rv, qv⟩ := (show CE [] P w H s _ u s2 from done)
      have ev : v = .bl true := qv
      subst ev
      obtain rfl : u = Value.bool true := rv
      refine ⟨rfl, OldK.of_keep fun b o e => ?_, os2, bare2⟩
      cases q : H b with
      | none => exact un.keep b o e q (by intro z; exact absurd (show b ∈ ([] : List Addr) from z) (by simp)) (by simp)
      | some u =>
        have eb := only b (by rw [q]; simp)
        subst eb
        obtain ⟨_, u', z⟩ := fz (by rw [q]; simp)
        have e2 := (show s2.heap.get? b = some ob ∧ _ from hok2 b _ (un.frzs b ob u' z)).1
        rw [at_] at e
        cases e
        exact e2
def scriptH (a : Addr) (o : Obj) (ns : List Int) : Hp := fun b => if b = a then some (.frz o (.lst (ns.map V.int))) else none
theorem scriptH_at {a : Addr} {o : Obj} {ns : List Int} : scriptH a o ns a = some (.frz o (.lst (ns.map V.int))) := if_pos rfl
abbrev D := PyData
abbrev Tb := List (Addr × Str)
def KTup (K : PySem.W.Frag) (a : Addr) (xs : List V) : Prop :=
  ∃ (o : Obj) (its : Array Value) (n : Nat), K.lookup a = some o ∧ o.cls = .type "tuple" ∧ o.data = .seq its n ∧ its.size ≤ sizeLine ∧ Vals xs its.toList
def KLst (K : PySem.W.Frag) (a : Addr) (xs : List V) : Prop :=
  ∃ (o : Obj) (its : Array Value) (n : Nat), K.lookup a = some o ∧ o.cls = .type "list" ∧ o.dict = none ∧ o.data = .seq its n ∧ its.size ≤ sizeLine ∧ Vals xs its.toList
def FqT (K : PySem.W.Frag) (F : Addr → Prop) (H : Hp) (a : Addr) (xs : List V) : Prop := (F a ∧ H a = some (.tup xs)) ∨ KTup K a xs
theorem FqT.sq {K : PySem.W.Frag} {F : Addr → Prop} {H : Hp} {a : Addr} {xs : List V} (h : FqT K F H a xs) : SqT K H a xs := by
  rcases h with ⟨_, h⟩ | h
  · exact .inl (.inl h)
  · exact .inr h
def kD : Key → D
  | .inl i => .int i
  | .inr x => .str x
mutual
inductive Fz (K : PySem.W.Frag) (F : Addr → Prop) (H : Hp) : V → D → Prop
  | non : Fz K F H .non .none
  | bl (b : Bool) : Fz K F H (.bl b) (.bool b)
  | int (i : Int) : Fz K F H (.int i) (.int i)
  | str (x : Str) : Fz K F H (.str x) (.str x)
  | lst {a : Addr} {xs : List V} {ds : List D} : F a → H a = some (.lst xs) → FzAll K F H xs ds → Fz K F H (.ref a) (.list ds)
  | tup {a : Addr} {xs : List V} {ds : List D} : FqT K F H a xs → FzAll K F H xs ds → Fz K F H (.ref a) (.tuple ds)
  | dct {a : Addr} {kvs : List (Key × V)} {es : List (D × D)} : F a → H a = some (.dK kvs) → FzKv K F H kvs es → Fz K F H (.ref a) (.dict es)
inductive FzAll (K : PySem.W.Frag) (F : Addr → Prop) (H : Hp) : List V → List D → Prop
  | nil : FzAll K F H [] []
  | cons {v : V} {vs : List V} {d : D} {ds : List D} : Fz K F H v d → FzAll K F H vs ds → FzAll K F H (v :: vs) (d :: ds)
inductive FzKv (K : PySem.W.Frag) (F : Addr → Prop) (H : Hp) : List (Key × V) → List (D × D) → Prop
  | nil : FzKv K F H [] []
  | cons {k : Key} {v : V} {vs : List (Key × V)} {d : D} {ds : List (D × D)} : Fz K F H v d → FzKv K F H vs ds → FzKv K F H ((k, v) :: vs) ((kD k, d) :: ds)
end
section
variable {K : PySem.W.Frag} {F F' : Addr → Prop} {H H' : Hp}
theorem FqT.ext {a : Addr} {xs : List V} (hs : ∀ a, F a → F' a) (he : ∀ a, F a → H' a = H a) (h : FqT K F H a xs) : FqT K F' H' a xs := by
  rcases h with ⟨h1, h2⟩ | h
  · exact .inl ⟨hs _ h1, (he _ h1).trans h2⟩
  · exact .inr h
mutual
theorem Fz.ext (hs : ∀ a, F a → F' a) (he : ∀ a, F a → H' a = H a) : ∀ (d : D) (v : V), Fz K F H v d → Fz K F' H' v d
  | .none, _, h => by cases h; exact .non
  | .bool b, _, h => by cases h; exact .bl b
  | .int i, _, h => by cases h; exact .int i
  | .str x, _, h => by cases h; exact .str x
  | .list ds, _, h => by
    cases h with
    | lst h1 h2 h3 => exact .lst (hs _ h1) ((he _ h1).trans h2) (FzAll.ext hs he ds _ h3)
  | .tuple ds, _, h => by
    cases h with
    | tup h1 h2 => exact .tup (h1.ext hs he) (FzAll.ext hs he ds _ h2)
  | .dict ds, _, h => by
    cases h with
    | dct h1 h2 h3 => exact .dct (hs _ h1) ((he _ h1).trans h2) (FzKv.ext hs he ds _ h3)
theorem FzAll.ext (hs : ∀ a, F a → F' a) (he : ∀ a, F a → H' a = H a) : ∀ (ds : List D) (vs : List V), FzAll K F H vs ds → FzAll K F' H' vs ds
  | [], _, h => by cases h; exact .nil
  | d :: ds, _, h => by
    cases h with
    | cons h1 h2 => exact .cons (Fz.ext hs he d _ h1) (FzAll.ext hs he ds _ h2)
theorem FzKv.ext (hs : ∀ a, F a → F' a) (he : ∀ a, F a → H' a = H a) : ∀ (ds : List (D × D)) (vs : List (Key × V)), FzKv K F H vs ds → FzKv K F' H' vs ds
  | [], _, h => by cases h; exact .nil
  | (_, d) :: ds, _, h => by
    cases h with
    | cons h1 h2 => exact .cons (Fz.ext hs he d _ h1) (FzKv.ext hs he ds _ h2)
end
theorem FzAll.len : ∀ {vs : List V} {ds : List D}, FzAll K F H vs ds → vs.length = ds.length
  | [], [], _ => rfl
  | _ :: _, _ :: _, .cons _ h => by rw [List.length_cons, List.length_cons, FzAll.len h]
theorem FzAll.get : ∀ {vs : List V} {ds : List D} {i : Nat} {d : D}, FzAll K F H vs ds → ds[i]? = some d → ∃ v, vs[i]? = some v ∧ Fz K F H v d
  | _, _, _, _, .nil, e => by simp at e
  | _ :: _, _ :: _, 0, _, .cons h _, e => by simp at e; subst e; exact ⟨_, rfl, h⟩
  | _ :: _, _ :: _, i + 1, d, .cons _ h, e => by
    obtain ⟨v, h1, h2⟩ := FzAll.get (i := i) (d := d) h (by simpa using e)
    exact ⟨v, by simpa using h1, h2⟩
theorem FzAll.set {v : V} {d : D} (r : Fz K F H v d) : ∀ {vs : List V} {ds : List D} (i : Nat), FzAll K F H vs ds → FzAll K F H (vs.set i v) (ds.set i d)
  | _, _, _, .nil => .nil
  | _, _, 0, .cons _ t => .cons r t
  | _, _, i + 1, .cons q t => .cons q (FzAll.set r i t)
theorem FzAll.append : ∀ {xs ys : List V} {ds es : List D}, FzAll K F H xs ds → FzAll K F H ys es → FzAll K F H (xs ++ ys) (ds ++ es)
  | _, _, _, _, .nil, s => s
  | _, _, _, _, .cons r t, s => .cons r (FzAll.append t s)
theorem FzAll.take : ∀ {xs : List V} {ds : List D} (n : Nat), FzAll K F H xs ds → FzAll K F H (xs.take n) (ds.take n)
  | _, _, 0, _ => .nil
  | _, _, _ + 1, .nil => .nil
  | _, _, n + 1, .cons r t => .cons r (FzAll.take n t)
theorem FzAll.drop : ∀ {xs : List V} {ds : List D} (n : Nat), FzAll K F H xs ds → FzAll K F H (xs.drop n) (ds.drop n)
  | _, _, 0, r => r
  | _, _, _ + 1, .nil => .nil
  | _, _, n + 1, .cons _ t => FzAll.drop n t
end
inductive MO where
  | lst (xs : List D) | dct (es : List (D × D)) | fz (x : D)
abbrev Store := List MO
inductive Ty where
  | int | bool | str | tup | lst | dct
  deriving DecidableEq
def Ty.name : Ty → String
  | .int => "int"
  | .bool => "bool"
  | .str => "str"
  | .tup => "tuple"
  | .lst => "list"
  | .dct => "dict"
structure Ext (n : Nat) (φ : Nat → Addr) (F : Addr → Prop) (H : Hp) (φ' : Nat → Addr) (F' : Addr → Prop) (H' : Hp) : Prop where
  sub : ∀ a, F a → F' a
  same : ∀ a, F a → H' a = H a
  loc : ∀ i, i < n → φ' i = φ i
structure LamP where
  P : (Nat → Addr) → (Addr → Prop) → Hp → Nat → V → Prop
  ext : ∀ {n m : Nat} {φ : Nat → Addr} {F : Addr → Prop} {H : Hp} {φ' : Nat → Addr} {F' : Addr → Prop} {H' : Hp} (v : V), Ext n φ F H φ' F' H' → n ≤ m → P φ F H n v → P φ' F' H' m v
inductive Vl where
  | d (x : D) | loc (n : Nat) | glo (x : Str) | ty (T : Ty) | tys (Ts : List Ty) | scr (xs : List Int) | xa (a : Addr) | lam (p : LamP) | glos (xs : List Str)
abbrev Env := List (Option Vl)
structure Xn where
  cls : Str
  fs : List (Str × D)
inductive Res (α : Type) where
  | ok (a : α) (S : Store) | ex (e : Xn) (S : Store) | bad
def Res.bind {α β : Type} (r : Res α) (k : α → Store → Res β) : Res β := match r with
  | .ok a S => k a S
  | .ex e S => .ex e S
  | .bad => .bad
@[simp] theorem bind_ok {α β : Type} (a : α) (S : Store) (k : α → Store → Res β) : (Res.ok a S).bind k = k a S := rfl
@[simp] theorem bind_ex {α β : Type} (e : Xn) (S : Store) (k : α → Store → Res β) : (Res.ex e S : Res α).bind k = .ex e S := rfl
@[simp] theorem bind_bad {α β : Type} (k : α → Store → Res β) : (Res.bad : Res α).bind k = .bad := rfl
abbrev Ev := Env → Store → Res Vl
abbrev Tv := Env → Store → Res Bool
abbrev Av := Env → Store → Res (List Vl)
inductive SRes where
  | nx (ρ : Env) (S : Store) | ret (v : Vl) (S : Store) | bk (ρ : Env) (S : Store) | ct (ρ : Env) (S : Store) | ex (e : Xn) (ρ : Env) (S : Store) | bad
abbrev Sv := Env → Store → SRes
abbrev Fn := List Vl → Store → Res Vl
section
variable (τ : Tb) (K : PySem.W.Frag) (mg : Str → Option Value)
def MOk (F : Addr → Prop) (H : Hp) (a : Addr) : MO → Prop
  | .lst ds => ¬ F a ∧ ∃ xs, H a = some (.lst xs) ∧ FzAll K F H xs ds
  | .dct es => ¬ F a ∧ ∃ kvs, H a = some (.dK kvs) ∧ FzKv K F H kvs es
  | .fz x => Fz K F H (.ref a) x ∧ H a ≠ none
def MO.live : MO → Bool
  | .fz _ => false
  | _ => true
structure SG (φ : Nat → Addr) (F : Addr → Prop) (H : Hp) (S : Store) : Prop where
  dom : ∀ a, F a → H a ≠ none
  obj : ∀ i o, S[i]? = some o → MOk K F H (φ i) o
  inj : ∀ i j, i < S.length → j < S.length → φ i = φ j → i = j
  tab : LamX.Tabs τ H
  ntab : ∀ q ∈ τ, ¬ F q.1
  only : ∀ a ps, H a = some (.tbl ps) → ∃ q ∈ τ, q.1 = a
  codes : ∀ a c q, H a = some (LamX.CodeO c q) → F a
def RepG : List V → List Str → Prop
  | [], [] => True
  | v :: vs, x :: xs => (∃ u, mg x = some u ∧ RelV v u) ∧ RepG vs xs
  | _, _ => False
def RepV (φ : Nat → Addr) (F : Addr → Prop) (H : Hp) (n : Nat) (v : V) : Vl → Prop
  | .d x => Fz K F H v x
  | .loc i => i < n ∧ v = .ref (φ i)
  | .glo x => ∃ u, mg x = some u ∧ RelV v u
  | .ty T => v = .ty T.name
  | .tys Ts => ∃ a, v = .ref a ∧ F a ∧ H a = some (.tup (Ts.map fun T => V.ty T.name))
  | .scr xs => ∃ a, v = .ref a ∧ ((F a ∧ ∃ o, H a = some (.frz o (.lst (xs.map V.int)))) ∨ KLst K a (xs.map V.int))
  | .xa a => v = .ref a
  | .lam p => p.P φ F H n v
  | .glos xs => ∃ a vs, v = .ref a ∧ F a ∧ H a = some (.tup vs) ∧ RepG mg vs xs
def RepVs (φ : Nat → Addr) (F : Addr → Prop) (H : Hp) (n : Nat) : List V → List Vl → Prop
  | [], [] => True
  | v :: vs, x :: xs => RepV K mg φ F H n v x ∧ RepVs φ F H n vs xs
  | _, _ => False
def Slots (φ : Nat → Addr) (F : Addr → Prop) (H : Hp) (n : Nat) (σ : L2.St) (ρ : Env) : Prop :=
  σ.length = ρ.length ∧ ∀ (i : Nat) (x : Vl), ρ[i]? = some (some x) → ∃ v, σ[i]? = some (some v) ∧ RepV K mg φ F H n v x
def RepX (F : Addr → Prop) (H : Hp) (c : Value) (od : Option Addr) (e : Xn) : Prop :=
  mg e.cls = some c ∧ match e.fs with
    | [] => od = none
    | fs => ∃ d vs, od = some d ∧ H d = some (.xd vs) ∧ vs.map (·.1) = fs.map (·.1) ∧ FzAll K F H (vs.map (·.2)) (fs.map (·.2))
structure Now (n : Nat) (φ : Nat → Addr) (F : Addr → Prop) (H : Hp) (φ' : Nat → Addr) (F' : Addr → Prop) (H' : Hp) (S' : Store) : Prop where
  ext : Ext n φ F H φ' F' H'
  sg : SG τ K φ' F' H' S'
  le : n ≤ S'.length
  rest : ∀ a, H a ≠ none → (∀ ps, H a ≠ some (.tbl ps)) → (∀ i, i < n → φ i ≠ a) → H' a = H a
  alive : ∀ a, H a ≠ none → H' a ≠ none
  new : ∀ i, n ≤ i → i < S'.length → H (φ' i) = none
  fnew : ∀ a, F' a → F a ∨ H a = none ∨ ∃ i, i < n ∧ φ i = a
abbrev XW := Value → Option Addr → Hp → Prop
def PostG {α β : Type} (R : (Nat → Addr) → (Addr → Prop) → Hp → Nat → β → α → Prop) (W : XW) (n : Nat) (φ : Nat → Addr) (F : Addr → Prop) (H : Hp) (Q : β → Hp → Prop) : Res α → Prop
  | .ok v S' => ∀ φ' F' H', Now τ K n φ F H φ' F' H' S' → ∀ x, R φ' F' H' S'.length x v → Q x H'
  | .ex e S' => ∀ φ' F' H', Now τ K n φ F H φ' F' H' S' → ∀ c od, RepX K mg F' H' c od e → W c od H'
  | .bad => False
abbrev RepB : (Nat → Addr) → (Addr → Prop) → Hp → Nat → Bool → Bool → Prop := fun _ _ _ _ x v => x = v
abbrev Post : XW → Nat → (Nat → Addr) → (Addr → Prop) → Hp → VK → Res Vl → Prop := PostG τ K mg (RepV K mg)
abbrev PostT : XW → Nat → (Nat → Addr) → (Addr → Prop) → Hp → (Bool → Hp → Prop) → Res Bool → Prop := PostG τ K mg RepB
abbrev PostA : XW → Nat → (Nat → Addr) → (Addr → Prop) → Hp → (List V → Hp → Prop) → Res (List Vl) → Prop := PostG τ K mg (RepVs K mg)
def PostS (W : WX) (n : Nat) (φ : Nat → Addr) (F : Addr → Prop) (H : Hp) (E : Ends) : SRes → Prop
  | .nx ρ S' => ∀ φ' F' H', Now τ K n φ F H φ' F' H' S' → ∀ σ', Slots K mg φ' F' H' S'.length σ' ρ → E.nx σ' H'
  | .bk ρ S' => ∀ φ' F' H', Now τ K n φ F H φ' F' H' S' → ∀ σ', Slots K mg φ' F' H' S'.length σ' ρ → E.bk σ' H'
  | .ct ρ S' => ∀ φ' F' H', Now τ K n φ F H φ' F' H' S' → ∀ σ', Slots K mg φ' F' H' S'.length σ' ρ → E.ct σ' H'
  | .ret v S' => ∀ φ' F' H', Now τ K n φ F H φ' F' H' S' → ∀ x, RepV K mg φ' F' H' S'.length x v → E.rt x H'
  | .ex e ρ S' => ∀ φ' F' H', Now τ K n φ F H φ' F' H' S' → ∀ c od, RepX K mg F' H' c od e → ∀ σ', Slots K mg φ' F' H' S'.length σ' ρ → W c od σ' H'
  | .bad => False
def RE (W : WX) (f : Ev) : TE := fun σ H Q => ∃ φ F ρ S, SG τ K φ F H S ∧ Slots K mg φ F H S.length σ ρ ∧ Post τ K mg (fun c od H' => W c od σ H') S.length φ F H Q (f ρ S)
def RT (W : WX) (f : Tv) : TT := fun σ H Q => ∃ φ F ρ S, SG τ K φ F H S ∧ Slots K mg φ F H S.length σ ρ ∧ PostT τ K mg (fun c od H' => W c od σ H') S.length φ F H Q (f ρ S)
def RA (W : WX) (f : Av) : TA := fun σ H Q => ∃ φ F ρ S, SG τ K φ F H S ∧ Slots K mg φ F H S.length σ ρ ∧ PostA τ K mg (fun c od H' => W c od σ H') S.length φ F H Q (f ρ S)
def RS (W : WX) (f : Sv) : TS := fun E σ H => ∃ φ F ρ S, SG τ K φ F H S ∧ Slots K mg φ F H S.length σ ρ ∧ PostS τ K mg W S.length φ F H E (f ρ S)
def spF (g : Fn) : Sp := fun vs H Q E => ∃ φ F xs S, SG τ K φ F H S ∧ RepVs K mg φ F H S.length vs xs ∧ Post τ K mg E S.length φ F H Q (g xs S)
end
structure DE (τ : Tb) (X : Cx) (W : WX) (e : Expr) (f : Ev) : Prop where
  r : PE X e (RE τ X.K X.mg W f)
structure DT (τ : Tb) (X : Cx) (W : WX) (e : Expr) (f : Tv) : Prop where
  r : PT X e (RT τ X.K X.mg W f)
structure DW (τ : Tb) (X : Cx) (W : WX) (e : Expr) (f : Tv) : Prop where
  r : PW X e (RT τ X.K X.mg W f)
structure DA (τ : Tb) (X : Cx) (W : WX) (es : List Expr) (f : Av) : Prop where
  r : PA X es (RA τ X.K X.mg W f)
structure DS (τ : Tb) (X : Cx) (W : WX) (s : Stmt) (f : Sv) : Prop where
  r : PS X s (RS τ X.K X.mg W f)
structure DB (τ : Tb) (X : Cx) (W : WX) (ss : List Stmt) (f : Sv) : Prop where
  r : PSs X ss (RS τ X.K X.mg W f)
theorem PE.mono {X : Cx} {e : Expr} {t t' : TE} (h : PE X e t) (m : ∀ σ H Q, t' σ H Q → t σ H Q) : PE X e t' := ⟨fun pins s σ H Q I q => h.run pins s σ H Q I (m _ _ _ q)⟩
theorem PT.mono {X : Cx} {e : Expr} {t t' : TT} (h : PT X e t) (m : ∀ σ H Q, t' σ H Q → t σ H Q) : PT X e t' := ⟨fun pins s σ H Q I q => h.run pins s σ H Q I (m _ _ _ q)⟩
theorem PW.mono {X : Cx} {e : Expr} {t t' : TT} (h : PW X e t) (m : ∀ σ H Q, t' σ H Q → t σ H Q) : PW X e t' := ⟨fun w pins s σ H Q I q => h.run w pins s σ H Q I (m _ _ _ q)⟩
theorem PA.mono {X : Cx} {e : List Expr} {t t' : TA} (h : PA X e t) (m : ∀ σ H Q, t' σ H Q → t σ H Q) : PA X e t' := ⟨fun p pins s σ H Q I q => h.run p pins s σ H Q I (m _ _ _ q)⟩
theorem PS.mono {X : Cx} {e : Stmt} {t t' : TS} (h : PS X e t) (m : ∀ E σ H, t' E σ H → t E σ H) : PS X e t' := ⟨fun pins s σ H Q I q => h.run pins s σ H Q I (m _ _ _ q)⟩
theorem PSs.mono {X : Cx} {e : List Stmt} {t t' : TS} (h : PSs X e t) (m : ∀ E σ H, t' E σ H → t E σ H) : PSs X e t' := ⟨fun pins s σ H Q I q => h.run pins s σ H Q I (m _ _ _ q)⟩
section
variable {K : PySem.W.Frag} {mg : Str → Option Value} {φ φ' φ1 φ2 : Nat → Addr} {F F' F1 F2 : Addr → Prop} {H H' H1 H2 : Hp} {n n' m : Nat} {S S' S1 : Store}
theorem Ext.refl : Ext n φ F H φ F H := ⟨fun _ h => h, fun _ _ => rfl, fun _ _ => rfl⟩
theorem Ext.trans (a : Ext n φ F H φ1 F1 H1) (b : Ext m φ1 F1 H1 φ2 F2 H2) (h : n ≤ m) : Ext n φ F H φ2 F2 H2 :=
  ⟨fun x q => b.sub x (a.sub x q), fun x q => (b.same x (a.sub x q)).trans (a.same x q), fun i q => (b.loc i (Nat.lt_of_lt_of_le q h)).trans (a.loc i q)⟩
theorem Now.refl (g : SG τ K φ F H S) : Now τ K S.length φ F H φ F H S := ⟨.refl, g, Nat.le_refl _, fun _ _ _ _ => rfl, fun _ h => h, fun i h1 h2 => absurd h2 (Nat.not_lt.mpr h1), fun _ h => .inl h⟩
theorem RepV.ext {v : V} {x : Vl} (e : Ext n φ F H φ' F' H') (h : n ≤ m) (r : RepV K mg φ F H n v x) : RepV K mg φ' F' H' m v x := by
  cases x with
  | d x => exact Fz.ext e.sub e.same x v r
  | loc i => exact ⟨Nat.lt_of_lt_of_le r.1 h, by rw [e.loc i r.1]; exact r.2⟩
  | glo x => exact r
  | ty T => exact r
  | tys T =>
    obtain ⟨a, h1, h2, h3⟩ := r
    exact ⟨a, h1, e.sub _ h2, (e.same _ h2).trans h3⟩
  | scr xs =>
    obtain ⟨a, h1, h2⟩ := r
    refine ⟨a, h1, h2.imp (fun ⟨h3, o, h4⟩ => ⟨e.sub _ h3, o, (e.same _ h3).trans h4⟩) id⟩
  | xa a => exact r
  | lam p => exact p.ext v e h r
  | glos xs =>
    obtain ⟨a, vs, h1, h2, h3, h4⟩ := r
    exact ⟨a, vs, h1, e.sub a h2, (e.same a h2).trans h3, h4⟩
theorem RepVs.ext (e : Ext n φ F H φ' F' H') (h : n ≤ m) : ∀ {vs : List V} {xs : List Vl}, RepVs K mg φ F H n vs xs → RepVs K mg φ' F' H' m vs xs
  | [], [], _ => trivial
  | _ :: _, _ :: _, r => ⟨r.1.ext e h, RepVs.ext e h r.2⟩
theorem RepVs.len : ∀ {vs : List V} {xs : List Vl}, RepVs K mg φ F H n vs xs → vs.length = xs.length
  | [], [], _ => rfl
  | _ :: _, _ :: _, r => by rw [List.length_cons, List.length_cons, RepVs.len r.2]
theorem Slots.ext {σ : L2.St} {ρ : Env} (e : Ext n φ F H φ' F' H') (h : n ≤ m) (r : Slots K mg φ F H n σ ρ) : Slots K mg φ' F' H' m σ ρ :=
  ⟨r.1, fun i x q => let ⟨v, h1, h2⟩ := r.2 i x q; ⟨v, h1, h2.ext e h⟩⟩
theorem Slots.now {σ : L2.St} {ρ : Env} (e : Now τ K n φ F H φ' F' H' S') (r : Slots K mg φ F H n σ ρ) : Slots K mg φ' F' H' S'.length σ ρ := r.ext e.ext e.le
theorem RepV.now {v : V} {x : Vl} (e : Now τ K n φ F H φ' F' H' S') (r : RepV K mg φ F H n v x) : RepV K mg φ' F' H' S'.length v x := r.ext e.ext e.le
theorem Slots.set {σ : L2.St} {ρ : Env} {i : Nat} {v : V} {x : Vl} (r : Slots K mg φ F H n σ ρ) (q : RepV K mg φ F H n v x) : Slots K mg φ F H n (σ.set i (some v)) (ρ.set i (some x)) := by
  refine ⟨by rw [List.length_set, List.length_set]; exact r.1, fun j y hj => ?_⟩
  by_cases e : i = j
  · subst e
    by_cases hl : i < ρ.length
    · rw [List.getElem?_set_self hl] at hj
      cases hj
      exact ⟨v, by rw [List.getElem?_set_self (by rw [r.1]; exact hl)], q⟩
    · rw [List.getElem?_eq_none (by simpa using hl)] at hj
      cases hj
  · rw [List.getElem?_set_ne e] at hj
    obtain ⟨w, h1, h2⟩ := r.2 j y hj
    exact ⟨w, by rw [List.getElem?_set_ne e]; exact h1, h2⟩
theorem Slots.weak {σ : L2.St} {ρ ρ' : Env} (r : Slots K mg φ F H n σ ρ) (hl : ρ'.length = ρ.length) (h : ∀ (i : Nat) (x : Vl), ρ'[i]? = some (some x) → ρ[i]? = some (some x)) : Slots K mg φ F H n σ ρ' :=
  ⟨r.1.trans hl.symm, fun i x q => r.2 i x (h i x q)⟩
theorem MOk.ext {a : Addr} {o : MO} (hs : ∀ a, F a → F' a) (he : ∀ a, F a → H' a = H a) (hn : o.live = true → ¬ F a → ¬ F' a) (ha : H' a = H a) (h : MOk K F H a o) : MOk K F' H' a o := by
  cases o with
  | lst ds =>
    obtain ⟨h1, xs, h2, h3⟩ := h
    exact ⟨hn rfl h1, xs, ha.trans h2, h3.ext hs he⟩
  | dct es =>
    obtain ⟨h1, xs, h2, h3⟩ := h
    exact ⟨hn rfl h1, xs, ha.trans h2, h3.ext hs he⟩
  | fz x => exact ⟨h.1.ext hs he, by rw [ha]; exact h.2⟩
theorem MOk.there {a : Addr} {o : MO} (h : MOk K F H a o) : H a ≠ none ∧ (o.live = true → ¬ F a) := by
  cases o with
  | lst ds =>
    obtain ⟨h1, xs, h2, h3⟩ := h
    exact ⟨by rw [h2]; simp, fun _ => h1⟩
  | dct es =>
    obtain ⟨h1, xs, h2, h3⟩ := h
    exact ⟨by rw [h2]; simp, fun _ => h1⟩
  | fz x => exact ⟨h.2, fun h => nomatch h⟩
theorem SG.at (g : SG τ K φ F H S) {i : Nat} (h : i < S.length) : H (φ i) ≠ none := (g.obj i _ (List.getElem?_eq_getElem h)).there.1
theorem SG.neAt (g : SG τ K φ F H S) {i : Nat} {p : Addr} (h : i < S.length) (hp : H p = none) : φ i ≠ p := fun e => g.at h (e ▸ hp)
theorem Now.trans (g : SG τ K φ F H S) (a : Now τ K S.length φ F H φ1 F1 H1 S1) (b : Now τ K S1.length φ1 F1 H1 φ2 F2 H2 S') : Now τ K S.length φ F H φ2 F2 H2 S' := by
  have nf : ∀ i x, S.length ≤ i → i < S1.length → H x ≠ none → φ1 i ≠ x := fun i x h1 h2 h3 e => h3 (e ▸ a.new i h1 h2)
  have rest : ∀ x, H x ≠ none → (∀ ps, H x ≠ some (.tbl ps)) → (∀ i, i < S.length → φ i ≠ x) → H2 x = H x := fun x hx ht hn => by
    have e1 := a.rest x hx ht hn
    refine (b.rest x (by rw [e1]; exact hx) (by rw [e1]; exact ht) fun i hi => ?_).trans e1
    by_cases hl : i < S.length
    · rw [a.ext.loc i hl]; exact hn i hl
    · exact nf i x (Nat.not_lt.mp hl) hi hx
  refine ⟨a.ext.trans b.ext a.le, b.sg, Nat.le_trans a.le b.le, rest, fun x hx => b.alive x (a.alive x hx), fun i h1 h2 => ?_, fun x hx => ?_⟩
  rotate_left
  · rcases b.fnew x hx with h | h | ⟨i, hi, e⟩
    · exact a.fnew x h
    · cases q : H x with
      | none => exact .inr (.inl rfl)
      | some o => exact absurd h (a.alive x (by rw [q]; simp))
    · by_cases hl : i < S.length
      · exact .inr (.inr ⟨i, hl, by rw [← a.ext.loc i hl]; exact e⟩)
      · exact .inr (.inl (e ▸ a.new i (Nat.not_lt.mp hl) hi))
  by_cases hl : i < S1.length
  · rw [b.ext.loc i hl]; exact a.new i h1 hl
  · have hn := b.new i (Nat.not_lt.mp hl) h2
    cases q : H (φ2 i) with
    | none => rfl
    | some o => exact absurd hn (a.alive _ (by rw [q]; simp))
theorem tab_ne (t : LamX.Tabs τ H) {q : Addr × Str} (hq : q ∈ τ) : H q.1 ≠ none := by
  obtain ⟨ps, h1, _⟩ := t q hq
  rw [h1]; simp
def Plain0 (o : HO) : Prop := (∀ ps, o ≠ .tbl ps) ∧ ∀ c q, o ≠ LamX.CodeO c q
theorem only_upd {τ : Tb} {p : Addr} {o : HO} (h : ∀ a ps, H a = some (.tbl ps) → ∃ q ∈ τ, q.1 = a) (ho : Plain0 o) : ∀ a ps, upd H p o a = some (.tbl ps) → ∃ q ∈ τ, q.1 = a := fun a ps e => by
  by_cases z : a = p
  · subst z
    rw [upd_same] at e
    exact absurd (Option.some.inj e) (ho.1 ps)
  · rw [upd_ne z] at e
    exact h a ps e
theorem codes_upd {F F' : Addr → Prop} {p : Addr} {o : HO} (h : ∀ a c q, H a = some (LamX.CodeO c q) → F a) (hs : ∀ a, F a → F' a) (ho : Plain0 o) : ∀ a c q, upd H p o a = some (LamX.CodeO c q) → F' a := fun a c q e => by
  by_cases z : a = p
  · subst z
    rw [upd_same] at e
    exact absurd (Option.some.inj e) (ho.2 c q)
  · rw [upd_ne z] at e
    exact hs a (h a c q e)
theorem tabs_new {p : Addr} {o : HO} (t : LamX.Tabs τ H) (hp : H p = none) : LamX.Tabs τ (upd H p o) := t.ext fun b u e => (upd_ne fun eq => by rw [eq, hp] at e; cases e).trans e
theorem plain_lst {xs : List V} : Plain0 (.lst xs) := ⟨fun _ z => (by cases z), fun _ _ z => (by unfold LamX.CodeO at z; cases z)⟩
theorem plain_dK {xs : List (Key × V)} : Plain0 (.dK xs) := ⟨fun _ z => (by cases z), fun _ _ z => (by unfold LamX.CodeO at z; cases z)⟩
theorem tabs_put {p : Addr} {o u : HO} (t : LamX.Tabs τ H) (hp : H p = some u) (pu : Plain0 u) : LamX.Tabs τ (upd H p o) := fun q hq => by
  obtain ⟨ps, h1, h2, h3⟩ := t q hq
  refine ⟨ps, (upd_ne fun e => ?_).trans h1, h2, fun pos cv hc => ?_⟩
  · rw [e, hp] at h1
    exact pu.1 ps (Option.some.inj h1)
  · obtain ⟨c, e1, e2⟩ := h3 pos cv hc
    refine ⟨c, e1, (upd_ne fun e => ?_).trans e2⟩
    rw [e, hp] at e2
    exact pu.2 _ _ (Option.some.inj e2)
theorem alive_upd {p : Addr} {o : HO} : ∀ a, H a ≠ none → upd H p o a ≠ none := fun a h => by
  by_cases e : a = p
  · subst e; rw [upd_same]; simp
  · rw [upd_ne e]; exact h
theorem MOk.plain {a : Addr} {o : MO} (h : MOk K F H a o) (hv : o.live = true) : ∃ u, H a = some u ∧ Plain0 u := by
  cases o with
  | lst ds => obtain ⟨_, xs, h2, _⟩ := h; exact ⟨_, h2, plain_lst⟩
  | dct es => obtain ⟨_, xs, h2, _⟩ := h; exact ⟨_, h2, plain_dK⟩
  | fz x => cases hv
theorem SG.fresh (g : SG τ K φ F H S) {p : Addr} {o : HO} (hp : H p = none) (ho : Plain0 o := by exact ⟨fun _ z => (by cases z), fun _ _ z => (by unfold LamX.CodeO at z; cases z)⟩) : Now τ K S.length φ F H φ (fun a => F a ∨ a = p) (upd H p o) S := by
  have same : ∀ a, F a → upd H p o a = H a := fun a h => upd_ne fun e => g.dom a h (e ▸ hp)
  refine ⟨⟨fun _ h => .inl h, same, fun _ _ => rfl⟩, ⟨fun a h => ?_, fun i o' h => ?_, g.inj, tabs_new g.tab hp, fun q hq z => z.elim (g.ntab q hq) fun e => tab_ne g.tab hq (e ▸ hp), only_upd g.only ho, codes_upd g.codes (fun _ z => .inl z) ho⟩, Nat.le_refl _, fun a ha _ _ => upd_ne fun e => ha (e ▸ hp), alive_upd, fun i h1 h2 => absurd h2 (Nat.not_lt.mpr h1), fun a (h : F a ∨ a = p) => h.imp id fun e => .inl (by rw [e]; exact hp)⟩
  · rcases h with h | h
    · rw [same a h]; exact g.dom a h
    · subst h; rw [upd_same]; simp
  · have hi : i < S.length := (List.getElem?_eq_some_iff.mp h).1
    have hne := g.neAt hi hp
    exact (g.obj i o' h).ext (fun _ h => .inl h) same (fun _ h1 h2 => h2.elim h1 hne) (upd_ne hne)
theorem SG.newLoc (g : SG τ K φ F H S) {p : Addr} {o : HO} {mo : MO} (hp : H p = none) (hm : (¬ F p → (∀ a, F a → upd H p o a = H a) → MOk K F (upd H p o) p mo)) (ho : Plain0 o := by exact ⟨fun _ z => (by cases z), fun _ _ z => (by unfold LamX.CodeO at z; cases z)⟩) :
    Now τ K S.length φ F H (fun i => if i = S.length then p else φ i) F (upd H p o) (S ++ [mo]) := by
  have same : ∀ a, F a → upd H p o a = H a := fun a h => upd_ne fun e => g.dom a h (e ▸ hp)
  have nf : ¬ F p := fun h => g.dom p h hp
  refine ⟨⟨fun _ h => h, same, fun i h => if_neg (Nat.ne_of_lt h)⟩, ⟨fun a h => ?_, fun i o' h => ?_, fun i j hi hj e => ?_, tabs_new g.tab hp, g.ntab, only_upd g.only ho, codes_upd g.codes (fun _ z => z) ho⟩, by simp, fun a ha _ _ => upd_ne fun e => ha (e ▸ hp), alive_upd, fun i h1 h2 => ?_, fun _ h => .inl h⟩
  · rw [same a h]; exact g.dom a h
  · by_cases hi : i = S.length
    · subst hi
      rw [List.getElem?_append_right (Nat.le_refl _), Nat.sub_self] at h
      cases h
      simp only [if_true]
      exact hm nf same
    · have hl : i < S.length := by
        have := (List.getElem?_eq_some_iff.mp h).1
        rw [List.length_append] at this
        simp at this
        omega
      rw [List.getElem?_append_left hl] at h
      simp only [if_neg hi]
      exact (g.obj i o' h).ext (fun _ h => h) same (fun _ h => h) (upd_ne (g.neAt hl hp))
  · simp only [List.length_append, List.length_singleton] at hi hj
    by_cases h1 : i = S.length <;> by_cases h2 : j = S.length
    · omega
    · simp only [h1, h2, if_true, if_false] at e
      exact absurd e.symm (g.neAt (by omega) hp)
    · simp only [h1, h2, if_true, if_false] at e
      exact absurd e (g.neAt (by omega) hp)
    · simp only [h1, h2, if_false] at e
      exact g.inj i j (by omega) (by omega) e
  · have e : i = S.length := by
      rw [List.length_append, List.length_singleton] at h2
      omega
    simp only [if_pos e]
    exact hp
theorem SG.write (g : SG τ K φ F H S) {i : Nat} {o : HO} {mo m0 : MO} (h0 : S[i]? = some m0) (hv : m0.live = true) (hm : ¬ F (φ i) → (∀ a, F a → upd H (φ i) o a = H a) → MOk K F (upd H (φ i) o) (φ i) mo) (ho : Plain0 o := by exact ⟨fun _ z => (by cases z), fun _ _ z => (by unfold LamX.CodeO at z; cases z)⟩) :
    Now τ K S.length φ F H φ F (upd H (φ i) o) (S.set i mo) := by
  have hi : i < S.length := (List.getElem?_eq_some_iff.mp h0).1
  have nf := (g.obj i _ h0).there.2 hv
  have same : ∀ a, F a → upd H (φ i) o a = H a := fun a h => upd_ne fun e => nf (e ▸ h)
  obtain ⟨u0, hu0, pu0⟩ := (g.obj i _ h0).plain hv
  refine ⟨⟨fun _ h => h, same, fun _ _ => rfl⟩, ⟨fun a h => ?_, fun j o' h => ?_, fun j k hj hk e => ?_, tabs_put g.tab hu0 pu0, g.ntab, only_upd g.only ho, codes_upd g.codes (fun _ z => z) ho⟩, by simp, fun a _ _ hn => upd_ne fun e => hn i hi e.symm, alive_upd, fun j h1 h2 => absurd h2 (by rw [List.length_set]; exact Nat.not_lt.mpr h1), fun _ h => .inl h⟩
  · rw [same a h]; exact g.dom a h
  · by_cases hj : i = j
    · subst hj
      rw [List.getElem?_set_self hi] at h
      cases h
      exact hm nf same
    · rw [List.getElem?_set_ne hj] at h
      have hl := (List.getElem?_eq_some_iff.mp h).1
      exact (g.obj j o' h).ext (fun _ h => h) same (fun _ h => h) (upd_ne fun e => hj (g.inj j i hl hi e).symm)
  · rw [List.length_set] at hj hk
    exact g.inj j k hj hk e
theorem SG.freeze (g : SG τ K φ F H S) {i : Nat} {m0 : MO} {x : D} (h0 : S[i]? = some m0) (hv : m0.live = true) (hm : Fz K (fun a => F a ∨ a = φ i) H (.ref (φ i)) x) : Now τ K S.length φ F H φ (fun a => F a ∨ a = φ i) H (S.set i (.fz x)) := by
  have hi : i < S.length := (List.getElem?_eq_some_iff.mp h0).1
  refine ⟨⟨fun _ h => .inl h, fun _ _ => rfl, fun _ _ => rfl⟩, ⟨fun a h => ?_, fun j o' h => ?_, fun j k hj hk e => ?_, g.tab, fun q hq z => z.elim (g.ntab q hq) fun e => ?_, g.only, fun a c q e => .inl (g.codes a c q e)⟩, by simp, fun _ _ _ _ => rfl, fun _ h => h, fun j h1 h2 => absurd h2 (by rw [List.length_set]; exact Nat.not_lt.mpr h1), fun a (h : F a ∨ a = φ i) => h.imp id fun e => .inr ⟨i, hi, e.symm⟩⟩
  · rcases h with h | h
    · exact g.dom a h
    · subst h; exact g.at hi
  · by_cases hj : i = j
    · subst hj
      rw [List.getElem?_set_self hi] at h
      cases h
      exact ⟨hm, g.at hi⟩
    · rw [List.getElem?_set_ne hj] at h
      have hl := (List.getElem?_eq_some_iff.mp h).1
      exact (g.obj j o' h).ext (fun _ h => .inl h) (fun _ _ => rfl) (fun _ h h2 => h2.elim h fun e => hj (g.inj j i hl hi e).symm) rfl
  · rw [List.length_set] at hj hk
    exact g.inj j k hj hk e
  · obtain ⟨u, hu, pu⟩ := (g.obj i _ h0).plain hv
    obtain ⟨ps, h1, _⟩ := g.tab q hq
    rw [e, hu] at h1
    exact pu.1 ps (Option.some.inj h1)
theorem Now.priv {p : Addr} (nw : Now τ K n φ F H φ' F' H' S') (h : H p ≠ none) (nt : ∀ ps, H p ≠ some (.tbl ps)) (nf : ¬ F p) (ns : ∀ i, i < n → φ i ≠ p) : H' p = H p ∧ ¬ F' p ∧ ∀ i, i < S'.length → φ' i ≠ p := by
  refine ⟨nw.rest p h nt ns, fun q => ?_, fun i hi e => ?_⟩
  · rcases nw.fnew p q with z | z | ⟨i, hi, e⟩
    · exact nf z
    · exact h z
    · exact ns i hi e
  · by_cases hl : i < n
    · exact ns i hl (by rw [← nw.ext.loc i hl]; exact e)
    · exact h (e ▸ nw.new i (Nat.not_lt.mp hl) hi)
theorem SG.other {p : Addr} {o : HO} (g : SG τ K φ F H S) (hp : H p = none ∨ ∃ u, H p = some u ∧ Plain0 u) (nf : ¬ F p) (ns : ∀ i, i < S.length → φ i ≠ p) (ho : Plain0 o := by exact ⟨fun _ z => (by cases z), fun _ _ z => (by unfold LamX.CodeO at z; cases z)⟩) : SG τ K φ F (upd H p o) S := by
  have same : ∀ a, F a → upd H p o a = H a := fun a h => upd_ne fun e => nf (e ▸ h)
  refine ⟨fun a h => by rw [same a h]; exact g.dom a h, fun i m hm => ?_, g.inj, hp.elim (tabs_new g.tab) fun ⟨u, hu, pu⟩ => tabs_put g.tab hu pu, g.ntab, only_upd g.only ho, codes_upd g.codes (fun _ z => z) ho⟩
  exact (g.obj i m hm).ext (fun _ h => h) same (fun _ h => h) (upd_ne (ns i (List.getElem?_eq_some_iff.mp hm).1))
theorem Now.other {p : Addr} {o : HO} (nw : Now τ K n φ F H φ' F' H' S') (h : H p = none) (hp : H' p = none ∨ ∃ u, H' p = some u ∧ Plain0 u) (hF : ∀ a, F a → H a ≠ none) (nf : ¬ F' p) (ns : ∀ i, i < S'.length → φ' i ≠ p) (ho : Plain0 o := by exact ⟨fun _ z => (by cases z), fun _ _ z => (by unfold LamX.CodeO at z; cases z)⟩) : Now τ K n φ F H φ' F' (upd H' p o) S' :=
  ⟨⟨nw.ext.sub, fun a ha => (upd_ne fun e => hF a ha (by rw [e]; exact h)).trans (nw.ext.same a ha), nw.ext.loc⟩, nw.sg.other hp nf ns ho, nw.le, fun a ha ht hn => (upd_ne fun e => ha (by rw [e]; exact h)).trans (nw.rest a ha ht hn), fun a ha => alive_upd a (nw.alive a ha), nw.new, nw.fnew⟩
theorem Now.take {p : Addr} (nw : Now τ K n φ F H φ' F' H' S') (h : H p = none) (hp : H' p ≠ none) (hp2 : ∀ ps, H' p ≠ some (.tbl ps)) (ns : ∀ i, i < S'.length → φ' i ≠ p) : Now τ K n φ F H φ' (fun a => F' a ∨ a = p) H' S' :=
  ⟨⟨fun a ha => .inl (nw.ext.sub a ha), nw.ext.same, nw.ext.loc⟩, ⟨fun a ha => ha.elim (nw.sg.dom a) fun e => e ▸ hp, fun i m hm => (nw.sg.obj i m hm).ext (fun _ z => .inl z) (fun _ _ => rfl) (fun _ z q => q.elim z (ns i (List.getElem?_eq_some_iff.mp hm).1)) rfl, nw.sg.inj, nw.sg.tab, fun q hq z => z.elim (nw.sg.ntab q hq) fun e => (let ⟨ps, h1, _⟩ := nw.sg.tab q hq; hp2 ps (e ▸ h1)), nw.sg.only, fun a c q e => .inl (nw.sg.codes a c q e)⟩, nw.le, nw.rest, nw.alive, nw.new,
    fun a ha => ha.elim (nw.fnew a) fun e => .inr (.inl (e ▸ h))⟩
theorem Now.keep {p : Addr} {mo : MO} (nw : Now τ K n φ F H φ' F' H' S') (h : H p = none) (ns : ∀ i, i < S'.length → φ' i ≠ p) (hm : MOk K F' H' p mo) : Now τ K n φ F H (fun i => if i = S'.length then p else φ' i) F' H' (S' ++ [mo]) := by
  refine ⟨⟨nw.ext.sub, nw.ext.same, fun i hi => ?_⟩, ⟨nw.sg.dom, fun i m hi => ?_, fun i j hi hj e => ?_, nw.sg.tab, nw.sg.ntab, nw.sg.only, nw.sg.codes⟩, ?_, nw.rest, nw.alive, fun i h1 h2 => ?_, nw.fnew⟩
  · show (if i = S'.length then p else φ' i) = φ i
    rw [if_neg (Nat.ne_of_lt (Nat.lt_of_lt_of_le hi nw.le))]
    exact nw.ext.loc i hi
  · by_cases he : i = S'.length
    · subst he
      rw [List.getElem?_append_right (Nat.le_refl _), Nat.sub_self] at hi
      cases hi
      simp only [if_true]
      exact hm
    · have hl := (List.getElem?_eq_some_iff.mp hi).1
      rw [List.length_append, List.length_singleton] at hl
      rw [List.getElem?_append_left (by omega)] at hi
      simp only [if_neg he]
      exact nw.sg.obj i m hi
  · rw [List.length_append, List.length_singleton] at hi hj
    by_cases h1 : i = S'.length <;> by_cases h2 : j = S'.length
    · omega
    · simp only [h1, h2, if_true, if_false] at e
      exact absurd e.symm (ns j (by omega))
    · simp only [h1, h2, if_true, if_false] at e
      exact absurd e (ns i (by omega))
    · simp only [h1, h2, if_false] at e
      exact nw.sg.inj i j (by omega) (by omega) e
  · rw [List.length_append]
    exact Nat.le_trans nw.le (Nat.le_add_right _ _)
  · rw [List.length_append, List.length_singleton] at h2
    by_cases he : i = S'.length
    · simp only [if_pos he]; exact h
    · simp only [if_neg he]; exact nw.new i h1 (by omega)
theorem SG.take (g : SG τ K φ F H S) (n : Nat) : SG τ K φ F H (S.take n) :=
  ⟨g.dom, fun i o h => g.obj i o (by
    have hl := (List.getElem?_eq_some_iff.mp h).1
    rw [List.length_take] at hl
    rw [List.getElem?_take_of_lt (by omega)] at h
    exact h), fun i j hi hj e => g.inj i j (by rw [List.length_take] at hi; omega) (by rw [List.length_take] at hj; omega) e, g.tab, g.ntab, g.only, g.codes⟩
theorem PostG.start {α β : Type} {R : (Nat → Addr) → (Addr → Prop) → Hp → Nat → β → α → Prop} {W : XW} {Q : β → Hp → Prop} {r : Res α} (g : SG τ K φ F H S) (e : Now τ K S.length φ F H φ1 F1 H1 S1) (p : PostG τ K mg R W S.length φ F H Q r) : PostG τ K mg R W S1.length φ1 F1 H1 Q r := by
  cases r with
  | ok v S' => exact fun φ' F' H' nw x rx => p φ' F' H' (Now.trans g e nw) x rx
  | ex x S' => exact fun φ' F' H' nw c od rx => p φ' F' H' (Now.trans g e nw) c od rx
  | bad => exact p
theorem PostG.bind {α β α' β' : Type} {R : (Nat → Addr) → (Addr → Prop) → Hp → Nat → β → α → Prop} {R' : (Nat → Addr) → (Addr → Prop) → Hp → Nat → β' → α' → Prop} {W : XW} {Q : β → Hp → Prop} {Q' : β' → Hp → Prop} {r : Res α'} {k : α' → Store → Res α}
    (g : SG τ K φ F H S) (p : PostG τ K mg R W S.length φ F H Q (r.bind k)) (h : ∀ φ1 F1 H1 S1 v x, Now τ K S.length φ F H φ1 F1 H1 S1 → R' φ1 F1 H1 S1.length x v → PostG τ K mg R W S1.length φ1 F1 H1 Q (k v S1) → Q' x H1) : PostG τ K mg R' W S.length φ F H Q' r := by
  cases r with
  | ok v S' => exact fun φ' F' H' nw x rx => h _ _ _ _ _ _ nw rx (PostG.start g nw p)
  | ex x S' => exact p
  | bad => exact p
theorem PostG.mono {α β : Type} {R : (Nat → Addr) → (Addr → Prop) → Hp → Nat → β → α → Prop} {W : XW} {Q Q' : β → Hp → Prop} {r : Res α} (p : PostG τ K mg R W n φ F H Q r) (h : ∀ x H', Q x H' → Q' x H') : PostG τ K mg R W n φ F H Q' r := by
  cases r with
  | ok v S' => exact fun φ' F' H' nw x rx => h _ _ (p φ' F' H' nw x rx)
  | ex x S' => exact p
  | bad => exact p
theorem PostS.start {W : WX} {E : Ends} {r : SRes} (g : SG τ K φ F H S) (e : Now τ K S.length φ F H φ1 F1 H1 S1) (p : PostS τ K mg W S.length φ F H E r) : PostS τ K mg W S1.length φ1 F1 H1 E r := by
  cases r with
  | nx ρ S' => exact fun φ' F' H' nw x rx => p φ' F' H' (Now.trans g e nw) x rx
  | bk ρ S' => exact fun φ' F' H' nw x rx => p φ' F' H' (Now.trans g e nw) x rx
  | ct ρ S' => exact fun φ' F' H' nw x rx => p φ' F' H' (Now.trans g e nw) x rx
  | ret v S' => exact fun φ' F' H' nw x rx => p φ' F' H' (Now.trans g e nw) x rx
  | ex x ρ S' => exact fun φ' F' H' nw c od rx => p φ' F' H' (Now.trans g e nw) c od rx
  | bad => exact p
theorem Post.ok {W : XW} {Q : VK} {v : Vl} {x : V} (g : SG τ K φ F H S) (p : Post τ K mg W S.length φ F H Q (.ok v S)) (r : RepV K mg φ F H S.length x v) : Q x H := p φ F H (.refl g) x r
theorem PostT.ok {W : XW} {Q : Bool → Hp → Prop} {b : Bool} (g : SG τ K φ F H S) (p : PostT τ K mg W S.length φ F H Q (.ok b S)) : Q b H := p φ F H (.refl g) b rfl
theorem Post.newT {W : XW} {Q : VK} {xs : List V} {ds : List D} (g : SG τ K φ F H S) (r : FzAll K F H xs ds) (p : Post τ K mg W S.length φ F H Q (.ok (.d (.tuple ds)) S)) : ∀ a, H a = none → Q (.ref a) (upd H a (.tup xs)) := fun a ha => by
  have nw := g.fresh (o := .tup xs) ha
  exact p _ _ _ nw _ (.tup (.inl ⟨.inr rfl, upd_same⟩) (r.ext nw.ext.sub nw.ext.same))
end
def mkL (m : Bool) (ds : List D) (S : Store) : Res Vl := if m then .ok (.loc S.length) (S ++ [.lst ds]) else .ok (.d (.list ds)) S
def mkK (m : Bool) (es : List (D × D)) (S : Store) : Res Vl := if m then .ok (.loc S.length) (S ++ [.dct es]) else .ok (.d (.dict es)) S
section
variable {K : PySem.W.Frag} {mg : Str → Option Value} {φ φ' φ1 φ2 : Nat → Addr} {F F' F1 F2 : Addr → Prop} {H H' H1 H2 : Hp} {n n' m : Nat} {S S' S1 : Store}
theorem Post.newL {W : XW} {Q : VK} {m : Bool} {xs : List V} {ds : List D} (g : SG τ K φ F H S) (r : FzAll K F H xs ds) (p : Post τ K mg W S.length φ F H Q (mkL m ds S)) : ∀ a, H a = none → Q (.ref a) (upd H a (.lst xs)) := fun a ha => by
  cases m with
  | true =>
    have nw := g.newLoc (o := .lst xs) (mo := .lst ds) ha fun nf same => ⟨nf, xs, upd_same, r.ext (fun _ h => h) same⟩
    exact p _ _ _ nw _ ⟨by simp, by simp⟩
  | false =>
    have nw := g.fresh (o := .lst xs) ha
    exact p _ _ _ nw _ (.lst (.inr rfl) upd_same (r.ext nw.ext.sub nw.ext.same))
theorem Post.newK {W : XW} {Q : VK} {m : Bool} {xs : List (Key × V)} {ds : List (D × D)} (g : SG τ K φ F H S) (r : FzKv K F H xs ds) (p : Post τ K mg W S.length φ F H Q (mkK m ds S)) : ∀ a, H a = none → Q (.ref a) (upd H a (.dK xs)) := fun a ha => by
  cases m with
  | true =>
    have nw := g.newLoc (o := .dK xs) (mo := .dct ds) ha fun nf same => ⟨nf, xs, upd_same, r.ext (fun _ h => h) same⟩
    exact p _ _ _ nw _ ⟨by simp, by simp⟩
  | false =>
    have nw := g.fresh (o := .dK xs) ha
    exact p _ _ _ nw _ (.dct (.inr rfl) upd_same (r.ext nw.ext.sub nw.ext.same))
end
structure Cc (X : Cx) (W : WX) (k : Nat) : Prop where
  calm : X.calm = true
  nd : X.N.Nodup
  tk : Takes X W
  rm : Room k X.A
  po : PassesOwn (model X.prog X.w) X.A X.env X.xe
  gd : X.A.guards = some []
abbrev W0 : WX := fun _ _ _ _ => False
theorem Cc.blk {X : Cx} {W : WX} {k : Nat} (c : Cc X W k) {s : Shared} {H : Hp} {scope : Scope} {cenv : PySem.Env} {fp : List Addr} : Cc (X.blk s H scope cenv fp) W0 k := ⟨c.calm, c.nd, takes0, c.rm, PassesOwn.never, c.gd⟩
def view (S : Store) : Vl → Option D
  | .d x => some x
  | .loc i => match S[i]? with
    | some (.lst ds) => some (.list ds)
    | some (.dct es) => some (.dict es)
    | some (.fz x) => some x
    | none => none
  | _ => none
@[simp] theorem view_d (S : Store) (x : D) : view S (.d x) = some x := rfl
def fr (v : Vl) (S : Store) : Res D := match v with
  | .d x => .ok x S
  | .loc i => match S[i]? with
    | some (.lst ds) => .ok (.list ds) (S.set i (.fz (.list ds)))
    | some (.dct es) => .ok (.dict es) (S.set i (.fz (.dict es)))
    | some (.fz x) => .ok x S
    | none => .bad
  | _ => .bad
@[simp] theorem fr_d (S : Store) (x : D) : fr (.d x) S = .ok x S := rfl
def frs : List Vl → Store → Res (List D)
  | [], S => .ok [] S
  | v :: vs, S => (fr v S).bind fun x S1 => (frs vs S1).bind fun xs S2 => .ok (x :: xs) S2
@[simp] theorem frs_nil (S : Store) : frs [] S = .ok [] S := rfl
@[simp] theorem frs_d (x : D) (vs : List Vl) (S : Store) : frs (.d x :: vs) S = (frs vs S).bind fun xs S2 => .ok (x :: xs) S2 := rfl
def Ob (K : PySem.W.Frag) (F : Addr → Prop) (H : Hp) (x : V) : D → Prop
  | .none => x = .non
  | .bool b => x = .bl b
  | .int i => x = .int i
  | .str z => x = .str z
  | .list ds => ∃ a xs, x = .ref a ∧ H a = some (.lst xs) ∧ FzAll K F H xs ds
  | .tuple ds => ∃ a xs, x = .ref a ∧ FqT K F H a xs ∧ FzAll K F H xs ds
  | .dict es => ∃ a kvs, x = .ref a ∧ H a = some (.dK kvs) ∧ FzKv K F H kvs es
section
variable {K : PySem.W.Frag} {mg : Str → Option Value} {φ φ' φ1 φ2 : Nat → Addr} {F F' F1 F2 : Addr → Prop} {H H' H1 H2 : Hp} {n n' m : Nat} {S S' S1 : Store}
theorem Fz.ob {x : V} {d : D} (h : Fz K F H x d) : Ob K F H x d := by
  cases h with
  | non => rfl
  | bl b => rfl
  | int i => rfl
  | str z => rfl
  | lst h1 h2 h3 => exact ⟨_, _, rfl, h2, h3⟩
  | tup h1 h2 => exact ⟨_, _, rfl, h1, h2⟩
  | dct h1 h2 h3 => exact ⟨_, _, rfl, h2, h3⟩
theorem ob_of {x : V} {v : Vl} {d : D} (g : SG τ K φ F H S) (r : RepV K mg φ F H n x v) (e : view S v = some d) : Ob K F H x d := by
  cases v with
  | d y => cases e; exact Fz.ob r
  | loc i =>
    obtain ⟨_, rfl⟩ := r
    cases q : S[i]? with
    | none => simp only [view, q] at e; cases e
    | some mo =>
      simp only [view, q] at e
      have o := g.obj i _ q
      cases mo with
      | lst ds =>
        cases e
        obtain ⟨_, xs, h1, h2⟩ := o
        exact ⟨_, _, rfl, h1, h2⟩
      | dct ds =>
        cases e
        obtain ⟨_, xs, h1, h2⟩ := o
        exact ⟨_, _, rfl, h1, h2⟩
      | fz y =>
        cases e
        exact o.1.ob
  | glo y => cases e
  | ty y => cases e
  | tys y => cases e
  | scr y => cases e
  | xa y => cases e
  | lam y => cases e
  | glos y => cases e
theorem FzKv.len : ∀ {vs : List (Key × V)} {ds : List (D × D)}, FzKv K F H vs ds → vs.length = ds.length
  | _, _, .nil => rfl
  | _, _, .cons _ h => by rw [List.length_cons, List.length_cons, FzKv.len h]
theorem fr_ok {x : V} {v : Vl} (g : SG τ K φ F H S) (r : RepV K mg φ F H S.length x v) (p : fr v S ≠ .bad) :
    ∃ φ' F' S' d, Now τ K S.length φ F H φ' F' H S' ∧ Fz K F' H x d ∧ fr v S = .ok d S' := by
  cases v with
  | d y => exact ⟨φ, F, S, y, .refl g, r, rfl⟩
  | loc i =>
    obtain ⟨hi, rfl⟩ := r
    cases q : S[i]? with
    | none => exact absurd hi (by simpa using q)
    | some mo =>
      cases mo with
      | lst ds =>
        obtain ⟨h0, xs, h1, h2⟩ := g.obj i _ q
        have f := Fz.lst (K := K) (F := fun a => F a ∨ a = φ i) (H := H) (.inr rfl) h1 (h2.ext (fun _ h => .inl h) fun _ _ => rfl)
        exact ⟨φ, _, _, .list ds, g.freeze q rfl f, f, by simp only [fr, q]⟩
      | dct ds =>
        obtain ⟨h0, xs, h1, h2⟩ := g.obj i _ q
        have f := Fz.dct (K := K) (F := fun a => F a ∨ a = φ i) (H := H) (.inr rfl) h1 (h2.ext (fun _ h => .inl h) fun _ _ => rfl)
        exact ⟨φ, _, _, .dict ds, g.freeze q rfl f, f, by simp only [fr, q]⟩
      | fz y => exact ⟨φ, F, S, y, .refl g, (g.obj i _ q).1, by simp only [fr, q]⟩
  | glo y => exact (p rfl).elim
  | ty y => exact (p rfl).elim
  | tys y => exact (p rfl).elim
  | scr y => exact (p rfl).elim
  | xa y => exact (p rfl).elim
  | lam y => exact (p rfl).elim
  | glos y => exact (p rfl).elim
theorem PostG.ok_of {α β : Type} {R : (Nat → Addr) → (Addr → Prop) → Hp → Nat → β → α → Prop} {W : XW} {Q : β → Hp → Prop} {r : Res α} {v : α} {x : β} (p : PostG τ K mg R W n φ F H Q r) (e : r = .ok v S') (nw : Now τ K n φ F H φ' F' H' S') (q : R φ' F' H' S'.length x v) : Q x H' := by
  subst e
  exact p _ _ _ nw _ q
theorem frs_ok {α β : Type} {R : (Nat → Addr) → (Addr → Prop) → Hp → Nat → β → α → Prop} {W : XW} {Q : β → Hp → Prop} : ∀ {xs : List V} {vs : List Vl} {φ : Nat → Addr} {F : Addr → Prop} {S : Store} {n0 : Nat} {φ0 : Nat → Addr} {F0 : Addr → Prop} {H0 : Hp} {k : List D → Store → Res α},
    SG τ K φ F H S → RepVs K mg φ F H S.length xs vs → PostG τ K mg R W n0 φ0 F0 H0 Q ((frs vs S).bind k) → ∃ φ' F' S' ds, Now τ K S.length φ F H φ' F' H S' ∧ FzAll K F' H xs ds ∧ PostG τ K mg R W n0 φ0 F0 H0 Q (k ds S')
  | [], [], φ, F, S, _, _, _, _, k, g, _, p => ⟨φ, F, S, [], .refl g, .nil, p⟩
  | x :: xs, v :: vs, φ, F, S, n0, φ0, F0, H0, k, g, r, p => by
    have e0 : frs (v :: vs) S = (fr v S).bind fun x S1 => (frs vs S1).bind fun xs S2 => .ok (x :: xs) S2 := rfl
    rw [e0] at p
    have hne : fr v S ≠ .bad := fun e => by rw [e] at p; exact p
    obtain ⟨φ1, F1, S1, d, nw1, f1, e1⟩ := fr_ok g r.1 hne
    rw [e1] at p
    have r1 : RepVs K mg φ1 F1 H S1.length xs vs := r.2.ext nw1.ext nw1.le
    have p1 : PostG τ K mg R W n0 φ0 F0 H0 Q ((frs vs S1).bind fun ds S' => k (d :: ds) S') := by
      have : ((Res.ok d S1).bind fun x S1 => (frs vs S1).bind fun xs S2 => Res.ok (x :: xs) S2).bind k = (frs vs S1).bind fun ds S' => k (d :: ds) S' := by
        show ((frs vs S1).bind fun xs S2 => Res.ok (d :: xs) S2).bind k = _
        cases frs vs S1 <;> rfl
      rw [← this]
      exact p
    obtain ⟨φ2, F2, S2, ds, nw2, f2, p2⟩ := frs_ok (k := fun ds S' => k (d :: ds) S') nw1.sg r1 p1
    exact ⟨φ2, F2, S2, d :: ds, Now.trans g nw1 nw2, .cons (f1.ext nw2.ext.sub nw2.ext.same) f2, p2⟩
  | [], _ :: _, _, _, _, _, _, _, _, _, _, r, _ => r.elim
  | _ :: _, [], _, _, _, _, _, _, _, _, _, r, _ => r.elim
end
def eVar (i : Nat) : Ev := fun ρ S => match ρ[i]? with
  | some (some v) => .ok v S
  | _ => .bad
def eD (x : D) : Ev := fun _ S => .ok (.d x) S
def eGlo (x : Str) : Ev := fun _ S => .ok (.glo x) S
def eTy (T : Ty) : Ev := fun _ S => .ok (.ty T) S
def eBin (o : Vl → Vl → Store → Res Vl) (fa fb : Ev) : Ev := fun ρ S => (fa ρ S).bind fun a S1 => (fb ρ S1).bind fun b S2 => o a b S2
def eUn (o : Vl → Store → Res Vl) (fa : Ev) : Ev := fun ρ S => (fa ρ S).bind fun a S1 => o a S1
def aNil : Av := fun _ S => .ok [] S
def aCons (fe : Ev) (fr : Av) : Av := fun ρ S => (fe ρ S).bind fun v S1 => (fr ρ S1).bind fun vs S2 => .ok (v :: vs) S2
def eFrz (f : Ev) : Ev := fun ρ S => (f ρ S).bind fun v S1 => (fr v S1).bind fun d S2 => .ok (.d d) S2
def eTup (f : Av) : Ev := fun ρ S => (f ρ S).bind fun vs S1 => (frs vs S1).bind fun ds S2 => if ds.length ≤ 1000 then .ok (.d (.tuple ds)) S2 else .bad
def eLst (m : Bool) (f : Av) : Ev := fun ρ S => (f ρ S).bind fun vs S1 => (frs vs S1).bind fun ds S2 => if ds.length ≤ 1000 then mkL m ds S2 else .bad
def eCall (g : Fn) (f : Av) : Ev := fun ρ S => (f ρ S).bind fun vs S1 => g vs S1
def eCallN (n : Nat) (g : Fn) (f : Av) : Ev := fun ρ S => (f ρ S).bind fun vs S1 => if vs.length = n then g vs S1 else .bad
def spN (τ : Tb) (K : PySem.W.Frag) (mg : Str → Option Value) (n : Nat) (g : Fn) : Sp := fun vs H Q E => vs.length = n ∧ spF τ K mg g vs H Q E
def eIf (c : Tv) (fa fb : Ev) : Ev := fun ρ S => (c ρ S).bind fun b S1 => if b = true then fa ρ S1 else fb ρ S1
def eAnd (fa fb : Ev) : Ev := fun ρ S => (fa ρ S).bind fun v S1 => match v with
  | .d (.bool c) => if c = true then fb ρ S1 else .ok (.d (.bool false)) S1
  | _ => .bad
def eOr (fa fb : Ev) : Ev := fun ρ S => (fa ρ S).bind fun v S1 => match v with
  | .d (.bool c) => if c = true then .ok (.d (.bool true)) S1 else fb ρ S1
  | _ => .bad
def eNot (fa : Ev) : Ev := fun ρ S => (fa ρ S).bind fun v S1 => match v with
  | .d (.bool c) => .ok (.d (.bool !c)) S1
  | _ => .bad
def tOf (f : Ev) : Tv := fun ρ S => (f ρ S).bind fun v S1 => match v with
  | .d (.bool c) => .ok c S1
  | _ => .bad
def tAnd (a b : Tv) : Tv := fun ρ S => (a ρ S).bind fun c S1 => if c = true then b ρ S1 else .ok false S1
def tOr (a b : Tv) : Tv := fun ρ S => (a ρ S).bind fun c S1 => if c = true then .ok true S1 else b ρ S1
def tNot (a : Tv) : Tv := fun ρ S => (a ρ S).bind fun c S1 => .ok (!c) S1
def eChain (o o' : Vl → Vl → Store → Res Vl) (fa fb fc : Ev) : Ev := fun ρ S => (fa ρ S).bind fun a S1 => (fb ρ S1).bind fun b S2 => (o a b S2).bind fun z S3 => match z with
  | .d (.bool k) => if k = true then (fc ρ S3).bind fun c S4 => o' b c S4 else .ok (.d (.bool false)) S3
  | _ => .bad
section
variable {X : Cx} {W : WX} {k : Nat} {a b c e : Expr} {es rest : List Expr} {fa fb fc : Ev} {ga gb : Tv} {fs : Av} {pos : Pos}
theorem de_var (i : Nat) {x : Str} (hN : X.N[i]? = some x := by rfl) (hv : Vis X.env.scope x := by first | exact Or.inl rfl | exact Or.inr (Or.inl rfl) | exact Or.inr (Or.inr rfl)) (hd : (x == ("__debug__" : Str)) = false := by decide)
    (hcd : (x == ("__classdict__" : Str)) = false := by decide) : DE τ X W (.Name x pos) (eVar i) := ⟨PE.mono (pe_var hN hv hd hcd) fun σ H Q ⟨φ, F, ρ, S, g, sl, p⟩ => by
  unfold eVar at p
  cases q : ρ[i]? with
  | none => rw [q] at p; exact p.elim
  | some o =>
    cases o with
    | none => rw [q] at p; exact p.elim
    | some v =>
      rw [q] at p
      obtain ⟨x, h1, h2⟩ := sl.2 i v q
      exact ⟨x, h1, Post.ok g p h2⟩⟩
theorem de_c {v : V} {d : D} (h : PE X e (tC v)) (r : ∀ F H, Fz X.K F H v d) : DE τ X W e (eD d) := ⟨PE.mono h fun σ H Q ⟨φ, F, ρ, S, g, sl, p⟩ => Post.ok g p (r F H)⟩
theorem de_int {i : Int} {j : Nat} : DE τ X W (.Constant (.int i) j pos) (eD (.int i)) := de_c pe_int fun _ _ => .int i
theorem de_bl {i : Bool} {j : Nat} : DE τ X W (.Constant (.bool i) j pos) (eD (.bool i)) := de_c pe_bl fun _ _ => .bl i
theorem de_non {j : Nat} : DE τ X W (.Constant .none j pos) (eD .none) := de_c pe_non fun _ _ => .non
theorem de_str {i : Str} {j : Nat} : DE τ X W (.Constant (.str i) j pos) (eD (.str i)) := de_c pe_str fun _ _ => .str i
theorem de_con {x : Str} {v : V} {d : D} {u : Value} (hg : Gl X x) (hm : X.mg x = some u) (r : RelV v u) (f : ∀ F H, Fz X.K F H v d) (hd : (x == ("__debug__" : Str)) = false := by decide) : DE τ X W (.Name x pos) (eD d) := de_c (pe_glob hg hm r hd) f
theorem de_ty {x : Str} {T : Ty} (hg : Gl X x) (hm : X.mg x = none) (hv : bootBuiltins x = some (.type T.name)) (hn : x ≠ "__name__" := by decide) (hd : (x == ("__debug__" : Str)) = false := by decide) : DE τ X W (.Name x pos) (eTy T) :=
  ⟨PE.mono (pe_bltn (v := .ty T.name) hg hm hv rfl hn hd) fun σ H Q ⟨φ, F, ρ, S, g, sl, p⟩ => Post.ok g p rfl⟩
theorem de_glo {x : Str} {v : V} {u : Value} (hg : Gl X x) (hm : X.mg x = some u) (r : RelV v u) (hd : (x == ("__debug__" : Str)) = false := by decide) : DE τ X W (.Name x pos) (eGlo x) :=
  ⟨PE.mono (pe_glob hg hm r hd) fun σ H Q ⟨φ, F, ρ, S, g, sl, p⟩ => Post.ok g p ⟨u, hm, r⟩⟩
def OpOk (τ : Tb) (K : PySem.W.Frag) (mg : Str → Option Value) (r : R2) (o : Vl → Vl → Store → Res Vl) : Prop :=
  ∀ {φ : Nat → Addr} {F : Addr → Prop} {H : Hp} {S : Store} {x y : V} {v u : Vl} {Q : VK} {W : XW}, SG τ K φ F H S → RepV K mg φ F H S.length x v → RepV K mg φ F H S.length y u → Post τ K mg W S.length φ F H Q (o v u S) → r x y H Q
def UnOk (τ : Tb) (K : PySem.W.Frag) (mg : Str → Option Value) (r : V → Hp → VK → Prop) (o : Vl → Store → Res Vl) : Prop :=
  ∀ {φ : Nat → Addr} {F : Addr → Prop} {H : Hp} {S : Store} {x : V} {v : Vl} {Q : VK} {W : XW}, SG τ K φ F H S → RepV K mg φ F H S.length x v → Post τ K mg W S.length φ F H Q (o v S) → r x H Q
def CallOk (τ : Tb) (K : PySem.W.Frag) (mg : Str → Option Value) (r : List V → Hp → VK → Prop) (o : Fn) : Prop :=
  ∀ {φ : Nat → Addr} {F : Addr → Prop} {H : Hp} {S : Store} {x : List V} {v : List Vl} {Q : VK} {W : XW}, SG τ K φ F H S → RepVs K mg φ F H S.length x v → Post τ K mg W S.length φ F H Q (o v S) → r x H Q
theorem OpOk.or {K : PySem.W.Frag} {mg : Str → Option Value} {r r' : R2} {o : Vl → Vl → Store → Res Vl} (h : ∀ {φ : Nat → Addr} {F : Addr → Prop} {H : Hp} {S : Store} {x y : V} {v u : Vl} {Q : VK} {W : XW}, SG τ K φ F H S → RepV K mg φ F H S.length x v → RepV K mg φ F H S.length y u → Post τ K mg W S.length φ F H Q (o v u S) → r x y H Q ∨ r' x y H Q) :
    OpOk τ K mg (fun x y H Q => r x y H Q ∨ r' x y H Q) o := h
theorem re2 {o : Vl → Vl → Store → Res Vl} {r : R2} (ok : OpOk τ X.K X.mg r o) {σ : L2.St} {H : Hp} {Q : VK} (h : RE τ X.K X.mg W (eBin o fa fb) σ H Q) : RE τ X.K X.mg W fa σ H fun x H1 => RE τ X.K X.mg W fb σ H1 fun y H2 => r x y H2 Q := by
  obtain ⟨φ, F, ρ, S, g, sl, p⟩ := h
  refine ⟨φ, F, ρ, S, g, sl, PostG.bind g p fun φ1 F1 H1 S1 v x nw1 r1 p1 => ⟨φ1, F1, ρ, S1, nw1.sg, sl.now nw1, PostG.bind nw1.sg p1 fun φ2 F2 H2 S2 u y nw2 r2 p2 => ?_⟩⟩
  exact ok nw2.sg (r1.now nw2) r2 p2
theorem de_bin {op : Operator} {o : Vl → Vl → Store → Res Vl} {r : R2} (ho : OpR X (binaryOp op) r) (ok : OpOk τ X.K X.mg r o) (ha : DE τ X W a fa) (hb : DE τ X W b fb) : DE τ X W (.BinOp a op b pos) (eBin o fa fb) := ⟨PE.mono (pe_op ho ha.r hb.r) fun _ _ _ h => re2 ok h⟩
theorem de_cmp {op : CmpOp} {o : Vl → Vl → Store → Res Vl} {r : R2} (ho : OpR X (compareOp op) r) (ok : OpOk τ X.K X.mg r o) (ha : DE τ X W a fa) (hb : DE τ X W b fb) (hm : behindInMarks op b = false) : DE τ X W (.Compare a [op] [b] pos) (eBin o fa fb) := ⟨PE.mono (pe_cmpR ho ha.r hb.r hm) fun _ _ _ h => re2 ok h⟩
theorem tof {f : Ev} {t : TE} {σ : L2.St} {H : Hp} {Q : Bool → Hp → Prop} (h : RT τ X.K X.mg W (tOf f) σ H Q) (m : ∀ Q, RE τ X.K X.mg W f σ H Q → t σ H Q) : t σ H fun x H' => ∃ k, x = .bl k ∧ Q k H' := by
  obtain ⟨φ, F, ρ, S, g, sl, p⟩ := h
  refine m _ ⟨φ, F, ρ, S, g, sl, PostG.bind g p fun φ1 F1 H1 S1 v x nw1 r1 p1 => ?_⟩
  cases v with
  | d y =>
    cases y with
    | bool b => cases r1; exact ⟨b, rfl, PostT.ok nw1.sg p1⟩
    | _ => exact p1.elim
  | _ => exact p1.elim
theorem dt_cmp {op : CmpOp} {o : Vl → Vl → Store → Res Vl} {r : R2} (ho : OpR X (compareOp op) r) (ok : OpOk τ X.K X.mg r o) (ha : DE τ X W a fa) (hb : DE τ X W b fb) (hm : behindInMarks op b = false) : DT τ X W (.Compare a [op] [b] pos) (tOf (eBin o fa fb)) := ⟨PT.mono (pt_cmpR ho ha.r hb.r hm) fun _ _ _ h => tof h fun _ h => re2 ok h⟩
theorem dt_val {f : Ev} (h : DE τ X W e f) (he : ∀ whole, isTrue e X.env whole = (do let v ← whole; standAt e.pos; holding [v] (truthy v)) := by intro _; rfl) : DT τ X W e (tOf f) := ⟨PT.mono (pt_val h.r he) fun _ _ _ q => tof q fun _ h => h⟩
theorem rechain {o o' : Vl → Vl → Store → Res Vl} {r r' : R2} (ok : OpOk τ X.K X.mg r o) (ok' : OpOk τ X.K X.mg r' o') {σ : L2.St} {H : Hp} {Q : VK} (h : RE τ X.K X.mg W (eChain o o' fa fb fc) σ H Q) : tChain r r' (RE τ X.K X.mg W fa) (RE τ X.K X.mg W fb) (RE τ X.K X.mg W fc) σ H Q := by
  obtain ⟨φ, F, ρ, S, g, sl, p⟩ := h
  refine ⟨φ, F, ρ, S, g, sl, PostG.bind g p fun φ1 F1 H1 S1 v x nw1 r1 p1 => ⟨φ1, F1, ρ, S1, nw1.sg, sl.now nw1, PostG.bind nw1.sg p1 fun φ2 F2 H2 S2 u y nw2 r2 p2 => ?_⟩⟩
  refine ok nw2.sg (r1.now nw2) r2 (PostG.bind (R' := RepV X.K X.mg) nw2.sg p2 fun φ3 F3 H3 S3 z zv nw3 r3 p3 => ?_)
  cases z with
  | d zd =>
    cases zd with
    | bool kb =>
      cases r3
      refine ⟨kb, rfl, ?_⟩
      cases kb with
      | true =>
        simp only [if_true] at p3 ⊢
        exact ⟨φ3, F3, ρ, S3, nw3.sg, ((sl.now nw1).now nw2).now nw3, PostG.bind nw3.sg p3 fun φ4 F4 H4 S4 w q nw4 r4 p4 => ok' nw4.sg ((r2.now nw3).now nw4) r4 p4⟩
      | false => exact Post.ok nw3.sg p3 (.bl false)
    | _ => exact p3.elim
  | _ => exact p3.elim
theorem de_chain {op op' : CmpOp} {o o' : Vl → Vl → Store → Res Vl} {r r' : R2} (ho : OpR X (compareOp op) r) (ok : OpOk τ X.K X.mg r o) (ho' : OpR X (compareOp op') r') (ok' : OpOk τ X.K X.mg r' o') (ha : DE τ X W a fa) (hb : DE τ X W b fb) (hc : DE τ X W c fc)
    (hm : lastMarks [op, op'] [b, c] = false := by rfl) : DE τ X W (.Compare a [op, op'] [b, c] pos) (eChain o o' fa fb fc) := ⟨PE.mono (pe_chain ho ho' ha.r hb.r hc.r hm) fun _ _ _ h => rechain ok ok' h⟩
theorem dt_chain {op op' : CmpOp} {o o' : Vl → Vl → Store → Res Vl} {r r' : R2} (ho : OpR X (compareOp op) r) (ok : OpOk τ X.K X.mg r o) (ho' : OpR X (compareOp op') r') (ok' : OpOk τ X.K X.mg r' o') (ha : DE τ X W a fa) (hb : DE τ X W b fb) (hc : DE τ X W c fc)
    (hm : lastMarks [op, op'] [b, c] = false := by rfl) : DT τ X W (.Compare a [op, op'] [b, c] pos) (tOf (eChain o o' fa fb fc)) := ⟨PT.mono (pt_chain ho ho' ha.r hb.r hc.r hm) fun _ _ _ h => tof h fun _ h => rechain ok ok' h⟩
theorem de_un {op : UnaryOp} {o : Vl → Store → Res Vl} {r : V → Hp → VK → Prop} (ho : UnR X (unaryOp op) r) (ok : UnOk τ X.K X.mg r o) (ha : DE τ X W a fa) : DE τ X W (.UnaryOp op a pos) (eUn o fa) := ⟨PE.mono (pe_un ho ha.r) fun σ H Q ⟨φ, F, ρ, S, g, sl, p⟩ =>
  ⟨φ, F, ρ, S, g, sl, PostG.bind g p fun φ1 F1 H1 S1 v x nw1 r1 p1 => ok nw1.sg r1 p1⟩⟩
theorem da_nil : DA τ X W [] aNil := ⟨PA.mono pa_nil fun σ H Q ⟨φ, F, ρ, S, g, sl, p⟩ => p _ _ _ (.refl g) [] trivial⟩
theorem da_cons {fe : Ev} {fr : Av} (ha : DE τ X W e fe) (hr : DA τ X W es fr) (hs : starEach (e :: es) X.env = (false, eval e X.env) :: starEach es X.env := by rfl) : DA τ X W (e :: es) (aCons fe fr) := ⟨PA.mono (pa_cons ha.r hr.r hs) fun σ H Q ⟨φ, F, ρ, S, g, sl, p⟩ =>
  ⟨φ, F, ρ, S, g, sl, PostG.bind g p fun φ1 F1 H1 S1 v x nw1 r1 p1 => ⟨φ1, F1, ρ, S1, nw1.sg, sl.now nw1, PostG.bind nw1.sg p1 fun φ2 F2 H2 S2 vs xs nw2 r2 p2 => p2 _ _ _ (.refl nw2.sg) _ ⟨r1.now nw2, r2⟩⟩⟩⟩
theorem de_frz {f : Ev} (h : DE τ X W e f) : DE τ X W e (eFrz f) := ⟨PE.mono h.r fun σ H Q ⟨φ, F, ρ, S, g, sl, p⟩ => ⟨φ, F, ρ, S, g, sl, PostG.bind g p fun φ1 F1 H1 S1 v x nw1 r1 p1 => by
  have hne : fr v S1 ≠ .bad := fun e => by rw [e] at p1; exact p1
  obtain ⟨φ2, F2, S2, d, nw2, f2, e2⟩ := fr_ok nw1.sg r1 hne
  rw [e2] at p1
  exact p1 _ _ _ nw2 _ f2⟩⟩
theorem line1000 {n : Nat} (h : n ≤ 1000) : n ≤ sizeLine := Nat.le_trans h (by decide)
theorem de_tup {x1} (h : DA τ X W es fs) : DE τ X W (.Tuple es x1 pos) (eTup fs) := ⟨PE.mono (pe_tup h.r) fun σ H Q ⟨φ, F, ρ, S, g, sl, p⟩ => ⟨φ, F, ρ, S, g, sl, PostG.bind g p fun φ1 F1 H1 S1 vs xs nw1 r1 p1 => by
  obtain ⟨φ2, F2, S2, ds, nw2, f2, p2⟩ := frs_ok (k := fun ds S2 => if ds.length ≤ 1000 then Res.ok (Vl.d (.tuple ds)) S2 else .bad) nw1.sg r1 p1
  by_cases hl : ds.length ≤ 1000
  · simp only [hl, if_true] at p2
    exact ⟨by rw [f2.len]; exact line1000 hl, Post.newT nw2.sg f2 (PostG.start nw1.sg nw2 p2)⟩
  · simp only [hl, if_false] at p2
    exact p2.elim⟩⟩
theorem de_lst (m : Bool) (h : DA τ X W es fs) : DE τ X W (.List es pos) (eLst m fs) := ⟨PE.mono (pe_lst h.r) fun σ H Q ⟨φ, F, ρ, S, g, sl, p⟩ => ⟨φ, F, ρ, S, g, sl, PostG.bind g p fun φ1 F1 H1 S1 vs xs nw1 r1 p1 => by
  obtain ⟨φ2, F2, S2, ds, nw2, f2, p2⟩ := frs_ok (k := fun ds S2 => if ds.length ≤ 1000 then mkL m ds S2 else .bad) nw1.sg r1 p1
  by_cases hl : ds.length ≤ 1000
  · simp only [hl, if_true] at p2
    exact ⟨by rw [f2.len]; exact line1000 hl, Post.newL nw2.sg f2 (PostG.start nw1.sg nw2 p2)⟩
  · simp only [hl, if_false] at p2
    exact p2.elim⟩⟩
theorem dw_one (h : DT τ X W a ga) : DW τ X W (.BoolOp .And [a] pos) ga := ⟨pw_and1 h.r⟩
theorem dw_or1 (h : DT τ X W a ga) : DW τ X W (.BoolOp .Or [a] pos) ga := ⟨pw_or1 h.r⟩
theorem dw_and (ha : DT τ X W a ga) (hb : DW τ X W (.BoolOp .And (b :: rest) pos) gb) : DW τ X W (.BoolOp .And (a :: b :: rest) pos) (tAnd ga gb) := ⟨PW.mono (pw_and ha.r hb.r) fun σ H Q ⟨φ, F, ρ, S, g, sl, p⟩ => ⟨φ, F, ρ, S, g, sl, PostG.bind (R' := RepB) g p fun φ1 F1 H1 S1 v x nw1 r1 p1 => by
  have r1 : x = v := r1
  subst r1
  cases x with
  | true => exact ⟨φ1, F1, ρ, S1, nw1.sg, sl.now nw1, p1⟩
  | false => exact PostT.ok nw1.sg p1⟩⟩
theorem dw_or (ha : DT τ X W a ga) (hb : DW τ X W (.BoolOp .Or (b :: rest) pos) gb) : DW τ X W (.BoolOp .Or (a :: b :: rest) pos) (tOr ga gb) := ⟨PW.mono (pw_or ha.r hb.r) fun σ H Q ⟨φ, F, ρ, S, g, sl, p⟩ => ⟨φ, F, ρ, S, g, sl, PostG.bind (R' := RepB) g p fun φ1 F1 H1 S1 v x nw1 r1 p1 => by
  have r1 : x = v := r1
  subst r1
  cases x with
  | false => exact ⟨φ1, F1, ρ, S1, nw1.sg, sl.now nw1, p1⟩
  | true => exact PostT.ok nw1.sg p1⟩⟩
theorem DW.t (h : DW τ X W e ga) : DT τ X W e ga := ⟨h.r.pt⟩
theorem dt_not (ha : DT τ X W a ga) : DT τ X W (.UnaryOp .Not a pos) (tNot ga) := ⟨PT.mono (pt_not ha.r) fun σ H Q ⟨φ, F, ρ, S, g, sl, p⟩ => ⟨φ, F, ρ, S, g, sl, PostG.bind (R' := RepB) g p fun φ1 F1 H1 S1 v x nw1 r1 p1 => by
  have r1 : x = v := r1
  subst r1
  exact PostT.ok nw1.sg p1⟩⟩
theorem de_one {op} (h : DE τ X W a fa) : DE τ X W (.BoolOp op [a] pos) fa := ⟨pe_one h.r⟩
theorem de_and (ha : DE τ X W a fa) (hb : DE τ X W (.BoolOp .And (b :: rest) pos) fb) : DE τ X W (.BoolOp .And (a :: b :: rest) pos) (eAnd fa fb) := ⟨PE.mono (pe_and ha.r hb.r) fun σ H Q ⟨φ, F, ρ, S, g, sl, p⟩ => ⟨φ, F, ρ, S, g, sl, PostG.bind g p fun φ1 F1 H1 S1 v x nw1 r1 p1 => by
  cases v with
  | d y =>
    cases y with
    | bool c =>
      cases r1
      refine ⟨c, rfl, ?_⟩
      cases c with
      | true => exact ⟨φ1, F1, ρ, S1, nw1.sg, sl.now nw1, p1⟩
      | false => exact Post.ok nw1.sg p1 (.bl false)
    | _ => exact p1.elim
  | _ => exact p1.elim⟩⟩
theorem de_or (ha : DE τ X W a fa) (hb : DE τ X W (.BoolOp .Or (b :: rest) pos) fb) : DE τ X W (.BoolOp .Or (a :: b :: rest) pos) (eOr fa fb) := ⟨PE.mono (pe_or ha.r hb.r) fun σ H Q ⟨φ, F, ρ, S, g, sl, p⟩ => ⟨φ, F, ρ, S, g, sl, PostG.bind g p fun φ1 F1 H1 S1 v x nw1 r1 p1 => by
  cases v with
  | d y =>
    cases y with
    | bool c =>
      cases r1
      refine ⟨c, rfl, ?_⟩
      cases c with
      | false => exact ⟨φ1, F1, ρ, S1, nw1.sg, sl.now nw1, p1⟩
      | true => exact Post.ok nw1.sg p1 (.bl true)
    | _ => exact p1.elim
  | _ => exact p1.elim⟩⟩
theorem de_not (ha : DE τ X W a fa) : DE τ X W (.UnaryOp .Not a pos) (eNot fa) := ⟨PE.mono (pe_not ha.r) fun σ H Q ⟨φ, F, ρ, S, g, sl, p⟩ => ⟨φ, F, ρ, S, g, sl, PostG.bind g p fun φ1 F1 H1 S1 v x nw1 r1 p1 => by
  cases v with
  | d y =>
    cases y with
    | bool c => cases r1; exact ⟨c, rfl, Post.ok nw1.sg p1 (.bl _)⟩
    | _ => exact p1.elim
  | _ => exact p1.elim⟩⟩
theorem de_if {c : Expr} (hc : DT τ X W c ga) (ha : DE τ X W a fa) (hb : DE τ X W b fb) : DE τ X W (.IfExp c a b pos) (eIf ga fa fb) := ⟨PE.mono (pe_ifExp hc.r ha.r hb.r) fun σ H Q ⟨φ, F, ρ, S, g, sl, p⟩ => ⟨φ, F, ρ, S, g, sl, PostG.bind (R' := RepB) g p fun φ1 F1 H1 S1 v x nw1 r1 p1 => by
  have r1 : x = v := r1
  subst r1
  cases x with
  | true => exact ⟨φ1, F1, ρ, S1, nw1.sg, sl.now nw1, p1⟩
  | false => exact ⟨φ1, F1, ρ, S1, nw1.sg, sl.now nw1, p1⟩⟩⟩
theorem de_call {f : Addr} {fd : FuncData} {ps : List Str} {n : Nat} {g : Fn} {x : Str} {p : Pos} {j : Nat} (cc : Cc X W j) (G : Fk X.prog X.w X.K X.mg X.base k f fd ps (spN τ X.K X.mg n g)) (hj : k ≤ j) (hg : Gl X x) (hm : X.mg x = some (.ref f)) (hk : PySem.W.keepIn X.K (.ref f) = true)
    (hb : Binds X.K fd ps []) (ha : DA τ X W (e :: es) fs) (hdb : (x == ("__debug__" : Str)) = false := by decide) (he : starEach (e :: es) X.env = (false, eval e X.env) :: starEach es X.env := by rfl)
    (hpl : (backTo pos (starEach es X.env)).any (·.1) = false := by rfl) : DE τ X W (.Call (.Name x p) (e :: es) [] pos) (eCallN n g fs) :=
  ⟨PE.mono (pe_callk G (cc.rm.mono hj) cc.gd cc.tk hg hm hk hb ha.r hdb he hpl) fun σ H Q ⟨φ, F, ρ, S, g, sl, p⟩ => ⟨φ, F, ρ, S, g, sl, PostG.bind g p fun φ1 F1 H1 S1 vs xs nw1 r1 p1 => by
    by_cases hl : vs.length = n
    · rw [if_pos hl] at p1
      exact ⟨r1.len.trans hl, φ1, F1, vs, S1, nw1.sg, r1, p1⟩
    · rw [if_neg hl] at p1; exact p1.elim⟩⟩
def eCall0 (n : Nat) (g : Fn) : Ev := fun _ S => if n = 0 then g [] S else .bad
theorem de_call0 {f : Addr} {fd : FuncData} {ps : List Str} {n : Nat} {g : Fn} {x : Str} {p : Pos} {j : Nat} (cc : Cc X W j) (G : Fk X.prog X.w X.K X.mg X.base k f fd ps (spN τ X.K X.mg n g)) (hj : k ≤ j) (hg : Gl X x) (hm : X.mg x = some (.ref f)) (hk : PySem.W.keepIn X.K (.ref f) = true)
    (hb : Binds X.K fd ps []) (hdb : (x == ("__debug__" : Str)) = false := by decide) : DE τ X W (.Call (.Name x p) [] [] pos) (eCall0 n g) :=
  ⟨PE.mono (pe_callk0 G (cc.rm.mono hj) cc.gd cc.tk hg hm hk hb hdb) fun σ H Q ⟨φ, F, ρ, S, gg, sl, p⟩ => by
    unfold eCall0 at p
    by_cases hl : n = 0
    · rw [if_pos hl] at p
      exact ⟨hl.symm, φ, F, [], S, gg, trivial, p⟩
    · rw [if_neg hl] at p; exact p.elim⟩
theorem de_callB {id : String} {x : Str} {p : Pos} {r : List V → Hp → VK → Prop} {o : Fn} (hc : CallR X (.builtin id) r) (ok : CallOk τ X.K X.mg r o) (hg : Gl X x) (hm : X.mg x = none) (hv : bootBuiltins x = some (.builtin id)) (ha : DA τ X W (e :: es) fs) (hn : x ≠ "__name__" := by decide) (hdb : (x == ("__debug__" : Str)) = false := by decide)
    (he : starEach (e :: es) X.env = (false, eval e X.env) :: starEach es X.env := by rfl) (hpl : (backTo pos (starEach es X.env)).any (·.1) = false := by rfl) : DE τ X W (.Call (.Name x p) (e :: es) [] pos) (eCall o fs) :=
  ⟨PE.mono (pe_callB hc hg hm hv ha.r hn hdb he hpl) fun σ H Q ⟨φ, F, ρ, S, g, sl, p⟩ => ⟨φ, F, ρ, S, g, sl, PostG.bind g p fun φ1 F1 H1 S1 vs xs nw1 r1 p1 => ok nw1.sg r1 p1⟩⟩
theorem de_callTy {T : String} {x : Str} {p : Pos} {r : List V → Hp → VK → Prop} {o : Fn} (hc : CallR X (.type T) r) (ok : CallOk τ X.K X.mg r o) (hg : Gl X x) (hm : X.mg x = none) (hv : bootBuiltins x = some (.type T)) (ha : DA τ X W (e :: es) fs) (hn : x ≠ "__name__" := by decide) (hdb : (x == ("__debug__" : Str)) = false := by decide)
    (he : starEach (e :: es) X.env = (false, eval e X.env) :: starEach es X.env := by rfl) (hpl : (backTo pos (starEach es X.env)).any (·.1) = false := by rfl) : DE τ X W (.Call (.Name x p) (e :: es) [] pos) (eCall o fs) :=
  ⟨PE.mono (pe_callTy hc hg hm hv ha.r hn hdb he hpl) fun σ H Q ⟨φ, F, ρ, S, g, sl, p⟩ => ⟨φ, F, ρ, S, g, sl, PostG.bind g p fun φ1 F1 H1 S1 vs xs nw1 r1 p1 => ok nw1.sg r1 p1⟩⟩
end
section
variable {K : PySem.W.Frag} {F : Addr → Prop} {H : Hp}
mutual
theorem Fz.dp : ∀ (d : D) (v : V), Fz K F H v d → d.plain = true → Dp K H v d
  | .none, _, h, _ => by cases h; exact .non
  | .bool b, _, h, _ => by cases h; exact .bl b
  | .int i, _, h, _ => by cases h; exact .int i
  | .str x, _, h, _ => by cases h; exact .str x
  | .list ds, _, h, p => by
    cases h with
    | lst h1 h2 h3 => exact .lst (.inl (.inl h2)) (FzAll.dp ds _ h3 (by simpa [PyData.plain] using p))
  | .tuple ds, _, h, p => by
    cases h with
    | tup h1 h2 => exact .tup h1.sq (FzAll.dp ds _ h2 (by simpa [PyData.plain] using p))
  | .dict ds, _, h, p => by simp [PyData.plain] at p
theorem FzAll.dp : ∀ (ds : List D) (vs : List V), FzAll K F H vs ds → PyData.plainAll ds = true → DpAll K H vs ds
  | [], _, h, _ => by cases h; exact .nil
  | d :: ds, _, h, p => by
    have p' : d.plain = true ∧ PyData.plainAll ds = true := by simpa [PyData.plainAll] using p
    cases h with
    | cons h1 h2 => exact .cons (Fz.dp d _ h1 p'.1) (FzAll.dp ds _ h2 p'.2)
end
theorem Ob.dp {d : D} {x : V} (h : Ob K F H x d) (p : d.plain = true) : Dp K H x d := by
  cases d with
  | none => cases h; exact .non
  | bool b => cases h; exact .bl b
  | int i => cases h; exact .int i
  | str z => cases h; exact .str z
  | list ds => obtain ⟨a, xs, rfl, h1, h2⟩ := h; exact .lst (.inl (.inl h1)) (h2.dp ds xs (by simpa [PyData.plain] using p))
  | tuple ds => obtain ⟨a, xs, rfl, h1, h2⟩ := h; exact .tup h1.sq (h2.dp ds xs (by simpa [PyData.plain] using p))
  | dict ds => simp [PyData.plain] at p
end
def shal (d : D) : Bool := d.plain && decide (d.depth ≤ 60)
def oPost (d : Option D) (S : Store) : Res Vl := match d with
  | some d => .ok (.d d) S
  | none => .bad
def mulOk (i j : Int) : Bool := decide (i.natAbs < 2 ^ 64) || decide (j.natAbs < 2 ^ 64) || (decide (i.natAbs < 2 ^ 4000) && decide (j.natAbs < 2 ^ 4000))
theorem log2_lt {n k : Nat} (h : n < 2 ^ k) : n.log2 ≤ k := by
  by_cases e : n = 0
  · subst e; simp
  · exact Nat.le_of_lt ((Nat.log2_lt e).mpr h)
theorem mulOk_ok {i j : Int} (h : mulOk i j = true) : IntMulOk i j := by
  simp only [mulOk, Bool.or_eq_true, Bool.and_eq_true, decide_eq_true_eq] at h
  rcases h with (h | h) | ⟨h1, h2⟩
  · exact CMul.ok (.inl ⟨by omega, by omega⟩)
  · exact CMul.ok (.inr ⟨by omega, by omega⟩)
  · exact CMulW.ok (by have := log2_lt h1; have := log2_lt h2; unfold CMulW; omega)
theorem natAbs_pow {j : Int} {k : Nat} (h0 : 0 < j) (h : j < 2 ^ k) : j.natAbs < 2 ^ k := by
  have e : (j.natAbs : Int) = j := Int.natAbs_of_nonneg (Int.le_of_lt h0)
  have h3 : (j.natAbs : Int) < ((2 ^ k : Nat) : Int) := by
    rw [e, Int.natCast_pow]
    exact h
  exact Int.ofNat_lt.mp h3
def oAdd (m : Bool) (a b : Vl) (S : Store) : Res Vl := match view S a, view S b with
  | some (.int i), some (.int j) => .ok (.d (.int (i + j))) S
  | some (.str x), some (.str y) => if x.length + y.length ≤ sizeLine then .ok (.d (.str (x ++ y))) S else .bad
  | some (.tuple xs), some (.tuple ys) => if xs.length + ys.length ≤ sizeLine then .ok (.d (.tuple (xs ++ ys))) S else .bad
  | some (.list xs), some (.list ys) => if xs.length + ys.length ≤ sizeLine then mkL m (xs ++ ys) S else .bad
  | _, _ => .bad
def oSub (a b : Vl) (S : Store) : Res Vl := match view S a, view S b with
  | some (.int i), some (.int j) => .ok (.d (.int (i - j))) S
  | _, _ => .bad
def oMul (m : Bool) (a b : Vl) (S : Store) : Res Vl := match view S a, view S b with
  | some (.int i), some (.int j) => if mulOk i j = true then .ok (.d (.int (i * j))) S else .bad
  | some (.list xs), some (.int k) => if -(2 ^ 63) ≤ k ∧ k < 2 ^ 63 ∧ xs.length * k.toNat ≤ sizeLine then mkL m (List.replicate k.toNat xs).flatten S else .bad
  | some (.tuple xs), some (.int k) => if xs ≠ [] ∧ 2 ≤ k ∧ k ≤ 1000 ∧ xs.length ≤ 1000 then .ok (.d (.tuple (List.replicate k.toNat xs).flatten)) S else .bad
  | _, _ => .bad
def oDiv (a b : Vl) (S : Store) : Res Vl := match view S a, view S b with
  | some (.int i), some (.int j) => if 0 < j ∧ j < 2 ^ 4000 then .ok (.d (.int (i / j))) S else if j ≠ 0 ∧ j.natAbs < 1073741824 then .ok (.d (.int (i.fdiv j))) S else .bad
  | _, _ => .bad
def oMod (a b : Vl) (S : Store) : Res Vl := match view S a, view S b with
  | some (.int i), some (.int j) => if 0 < j then .ok (.d (.int (i % j))) S else if j ≠ 0 then .ok (.d (.int (i.fmod j))) S else .bad
  | _, _ => .bad
def oPow (a b : Vl) (S : Store) : Res Vl := match view S a, view S b with
  | some (.int i), some (.int j) => if 0 ≤ j ∧ j ≤ 1000000 ∧ i.natAbs < 2 ^ 64 then .ok (.d (.int (i ^ j.toNat))) S else .bad
  | _, _ => .bad
def oNeg (a : Vl) (S : Store) : Res Vl := match view S a with
  | some (.int i) => .ok (.d (.int (-i))) S
  | _ => .bad
def oEq (a b : Vl) (S : Store) : Res Vl := match view S a, view S b with
  | some x, some y => if (shal x && shal y) = true then .ok (.d (.bool (PyData.eqv x y))) S else .bad
  | _, _ => .bad
def oNe (a b : Vl) (S : Store) : Res Vl := match view S a, view S b with
  | some x, some y => if (shal x && shal y) = true then .ok (.d (.bool !(PyData.eqv x y))) S else .bad
  | _, _ => .bad
def isNone : D → Bool
  | .none => true
  | _ => false
def ordOk (x y : D) : Bool := shal x && shal y && PySem.W.alike x y && !isNone x
def oLt (a b : Vl) (S : Store) : Res Vl := match view S a, view S b with
  | some (.int i), some (.int j) => .ok (.d (.bool (decide (i < j)))) S
  | some x, some y => if ordOk x y = true then .ok (.d (.bool (PySem.W.dataLt x y))) S else .bad
  | _, _ => .bad
def oGt (a b : Vl) (S : Store) : Res Vl := match view S a, view S b with
  | some (.int i), some (.int j) => .ok (.d (.bool (decide (j < i)))) S
  | some x, some y => if ordOk x y = true then .ok (.d (.bool (PySem.W.dataLt y x))) S else .bad
  | _, _ => .bad
def oLe (a b : Vl) (S : Store) : Res Vl := match view S a, view S b with
  | some (.int i), some (.int j) => .ok (.d (.bool (decide (i ≤ j)))) S
  | some x, some y => if ordOk x y = true then .ok (.d (.bool !(PySem.W.dataLt y x))) S else .bad
  | _, _ => .bad
def oGe (a b : Vl) (S : Store) : Res Vl := match view S a, view S b with
  | some (.int i), some (.int j) => .ok (.d (.bool (decide (j ≤ i)))) S
  | some x, some y => if ordOk x y = true then .ok (.d (.bool !(PySem.W.dataLt x y))) S else .bad
  | _, _ => .bad
def isIn (x : D) (ys : List D) : Bool := ys.any fun y => PyData.eqv y x
def oIn (neg : Bool) (a b : Vl) (S : Store) : Res Vl := match view S a, view S b with
  | some x, some (.list ys) => if (shal x && shal (.list ys)) = true then .ok (.d (.bool (if neg = true then !isIn x ys else isIn x ys))) S else .bad
  | some x, some (.tuple ys) => if (shal x && shal (.tuple ys)) = true then .ok (.d (.bool (if neg = true then !isIn x ys else isIn x ys))) S else .bad
  | _, _ => .bad
def oIs (neg : Bool) (a b : Vl) (S : Store) : Res Vl := match view S b with
  | some .none => match view S a with
    | some x => .ok (.d (.bool (if neg = true then !isNone x else isNone x))) S
    | _ => .bad
  | some (.bool q) => match view S a with
    | some (.bool p) => .ok (.d (.bool (if neg = true then !decide (p = q) else decide (p = q)))) S
    | _ => .bad
  | _ => .bad
def oIx (a b : Vl) (S : Store) : Res Vl := match view S a, view S b with
  | some (.list xs), some (.int i) => oPost (atI xs i) S
  | some (.tuple xs), some (.int i) => oPost (atI xs i) S
  | some (.str z), some (.int i) => if z.length ≤ sizeLine then oPost ((atI z.cps.toList i).map fun c => .str ⟨#[c]⟩) S else .bad
  | _, _ => .bad
section
variable {K : PySem.W.Frag} {mg : Str → Option Value} {φ : Nat → Addr} {F : Addr → Prop} {H : Hp} {S : Store} {x y : V} {v u : Vl} {Q : VK} {W : XW} {n : Nat} {m : Bool}
theorem FzAll.flat {xs : List V} {ds : List D} (h : FzAll K F H xs ds) : ∀ n, FzAll K F H (List.replicate n xs).flatten (List.replicate n ds).flatten
  | 0 => .nil
  | n + 1 => by
    rw [List.replicate_succ, List.replicate_succ, List.flatten_cons, List.flatten_cons]
    exact h.append (FzAll.flat h n)
theorem post_bad {v u : Vl} (p : Post τ K mg W n φ F H Q .bad) : False := p
def rMulX : R2 := rI (fun i j => mulOk i j = true) fun i j => .int (i * j)
def rDivX : R2 := rI (fun i j => 0 < j ∧ j < 2 ^ 4000) fun i j => .int (i / j)
theorem ok_add : OpOk τ K mg (fun x y H Q => rI0 (fun i j => V.int (i + j)) x y H Q ∨ (∃ i j, x = .str i ∧ y = .str j ∧ i.length + j.length ≤ sizeLine ∧ Q (.str (i ++ j)) H) ∨ rCatA K x y H Q ∨ rCat x y H Q) (oAdd m) := by
  intro φ F H S x y v u Q W g r1 r2 p
  cases e1 : view S v with
  | none => simp only [oAdd, e1] at p; exact p.elim
  | some d1 =>
    cases e2 : view S u with
    | none => simp only [oAdd, e1, e2] at p; exact p.elim
    | some d2 =>
      have o1 := ob_of g r1 e1
      have o2 := ob_of g r2 e2
      simp only [oAdd, e1, e2] at p
      cases d1 <;> cases d2 <;> dsimp only at p <;> first | exact p.elim | skip
      · exact .inl ⟨_, _, o1, o2, Post.ok g p (.int _)⟩
      · rename_i i j
        by_cases hl : i.length + j.length ≤ sizeLine
        · simp only [hl, if_true] at p
          exact .inr (.inl ⟨_, _, o1, o2, hl, Post.ok g p (.str _)⟩)
        · simp only [hl, if_false] at p; exact p.elim
      · rename_i ds es
        by_cases hl : ds.length + es.length ≤ sizeLine
        · simp only [hl, if_true] at p
          obtain ⟨a, xs, h1, h2, h3⟩ := o1
          obtain ⟨b, ys, h4, h5, h6⟩ := o2
          exact .inr (.inr (.inr ⟨a, b, xs, ys, h1, h4, h2, h5, by rw [h3.len, h6.len]; exact hl, Post.newL g (h3.append h6) p⟩))
        · simp only [hl, if_false] at p; exact p.elim
      · rename_i ds es
        by_cases hl : ds.length + es.length ≤ sizeLine
        · simp only [hl, if_true] at p
          obtain ⟨a, xs, h1, h2, h3⟩ := o1
          obtain ⟨b, ys, h4, h5, h6⟩ := o2
          refine .inr (.inr (.inl ⟨a, b, xs, ys, h1, h4, h2.sq, h5.sq, by rw [h3.len, h6.len]; exact hl, fun e => ?_, fun e e' => ?_, fun e e' => Post.newT g (h3.append h6) p⟩))
          · subst e
            cases h3
            exact Post.ok g p (.tup h5 h6)
          · subst e'
            cases h6
            rw [List.append_nil] at p
            exact Post.ok g p (.tup h2 h3)
        · simp only [hl, if_false] at p; exact p.elim
theorem ok_sub : OpOk τ K mg (rI0 fun i j => V.int (i - j)) oSub := by
  intro φ F H S x y v u Q W g r1 r2 p
  cases e1 : view S v with
  | none => simp only [oSub, e1] at p; exact p.elim
  | some d1 =>
    cases e2 : view S u with
    | none => simp only [oSub, e1, e2] at p; cases d1 <;> exact p.elim
    | some d2 =>
      have o1 := ob_of g r1 e1
      have o2 := ob_of g r2 e2
      simp only [oSub, e1, e2] at p
      cases d1 <;> cases d2 <;> dsimp only at p <;> first | exact p.elim | skip
      exact ⟨_, _, o1, o2, Post.ok g p (.int _)⟩
theorem ok_mul : OpOk τ K mg (fun x y H Q => rMulX x y H Q ∨ rRep x y H Q ∨ rRepT K x y H Q) (oMul m) := by
  intro φ F H S x y v u Q W g r1 r2 p
  cases e1 : view S v with
  | none => simp only [oMul, e1] at p; exact p.elim
  | some d1 =>
    cases e2 : view S u with
    | none => simp only [oMul, e1, e2] at p; cases d1 <;> exact p.elim
    | some d2 =>
      have o1 := ob_of g r1 e1
      have o2 := ob_of g r2 e2
      simp only [oMul, e1, e2] at p
      cases d1 <;> cases d2 <;> dsimp only at p <;> first | exact p.elim | skip
      · rename_i i j
        by_cases hl : mulOk i j = true
        · simp only [hl, if_true] at p
          exact .inl ⟨_, _, o1, o2, hl, Post.ok g p (.int _)⟩
        · simp only [hl] at p; exact p.elim
      · rename_i ds k
        by_cases hl : -(2 ^ 63) ≤ k ∧ k < 2 ^ 63 ∧ ds.length * k.toNat ≤ sizeLine
        · rw [if_pos hl] at p
          obtain ⟨a, xs, h1, h2, h3⟩ := o1
          exact .inr (.inl ⟨a, k, xs, h1, o2, h2, hl.1, hl.2.1, by rw [h3.len]; exact hl.2.2, Post.newL g (h3.flat _) p⟩)
        · rw [if_neg hl] at p; exact p.elim
      · rename_i ds k
        by_cases hl : ds ≠ [] ∧ 2 ≤ k ∧ k ≤ 1000 ∧ ds.length ≤ 1000
        · rw [if_pos hl] at p
          obtain ⟨a, xs, h1, h2, h3⟩ := o1
          exact .inr (.inr ⟨a, k, xs, h1, o2, h2.sq, fun e => hl.1 (by subst e; cases h3; rfl), hl.2.1, hl.2.2.1, by rw [h3.len]; exact hl.2.2.2, Post.newT g (h3.flat _) p⟩)
        · rw [if_neg hl] at p; exact p.elim
theorem ok_div : OpOk τ K mg (fun x y H Q => rDivX x y H Q ∨ rI CDivN (fun i j => V.int (i.fdiv j)) x y H Q) oDiv := by
  intro φ F H S x y v u Q W g r1 r2 p
  cases e1 : view S v with
  | none => simp only [oDiv, e1] at p; exact p.elim
  | some d1 =>
    cases e2 : view S u with
    | none => simp only [oDiv, e1, e2] at p; cases d1 <;> exact p.elim
    | some d2 =>
      have o1 := ob_of g r1 e1
      have o2 := ob_of g r2 e2
      simp only [oDiv, e1, e2] at p
      cases d1 <;> cases d2 <;> dsimp only at p <;> first | exact p.elim | skip
      rename_i i j
      by_cases hl : 0 < j ∧ j < 2 ^ 4000
      · rw [if_pos hl] at p
        exact .inl ⟨_, _, o1, o2, hl, Post.ok g p (.int _)⟩
      · rw [if_neg hl] at p
        by_cases h2 : j ≠ 0 ∧ j.natAbs < 1073741824
        · rw [if_pos h2] at p
          exact .inr ⟨_, _, o1, o2, h2, Post.ok g p (.int _)⟩
        · rw [if_neg h2] at p; exact p.elim
theorem ok_mod : OpOk τ K mg (fun x y H Q => rI (fun _ j => 0 < j) (fun i j => V.int (i % j)) x y H Q ∨ rI (fun _ j => j ≠ 0) (fun i j => V.int (i.fmod j)) x y H Q) oMod := by
  intro φ F H S x y v u Q W g r1 r2 p
  cases e1 : view S v with
  | none => simp only [oMod, e1] at p; exact p.elim
  | some d1 =>
    cases e2 : view S u with
    | none => simp only [oMod, e1, e2] at p; cases d1 <;> exact p.elim
    | some d2 =>
      have o1 := ob_of g r1 e1
      have o2 := ob_of g r2 e2
      simp only [oMod, e1, e2] at p
      cases d1 <;> cases d2 <;> dsimp only at p <;> first | exact p.elim | skip
      rename_i i j
      by_cases hl : 0 < j
      · rw [if_pos hl] at p
        exact .inl ⟨_, _, o1, o2, hl, Post.ok g p (.int _)⟩
      · rw [if_neg hl] at p
        by_cases h2 : j ≠ 0
        · rw [if_pos h2] at p
          exact .inr ⟨_, _, o1, o2, h2, Post.ok g p (.int _)⟩
        · rw [if_neg h2] at p; exact p.elim
theorem ok_pow : OpOk τ K mg (rI CPow fun i j => V.int (i ^ j.toNat)) oPow := by
  intro φ F H S x y v u Q W g r1 r2 p
  cases e1 : view S v with
  | none => simp only [oPow, e1] at p; exact p.elim
  | some d1 =>
    cases e2 : view S u with
    | none => simp only [oPow, e1, e2] at p; cases d1 <;> exact p.elim
    | some d2 =>
      have o1 := ob_of g r1 e1
      have o2 := ob_of g r2 e2
      simp only [oPow, e1, e2] at p
      cases d1 <;> cases d2 <;> dsimp only at p <;> first | exact p.elim | skip
      rename_i i j
      by_cases hl : 0 ≤ j ∧ j ≤ 1000000 ∧ i.natAbs < 2 ^ 64
      · rw [if_pos hl] at p
        exact ⟨_, _, o1, o2, hl, Post.ok g p (.int _)⟩
      · rw [if_neg hl] at p; exact p.elim
theorem ok_neg : UnOk τ K mg (rU fun i => V.int (-i)) oNeg := by
  intro φ F H S x v Q W g r1 p
  cases e1 : view S v with
  | none => simp only [oNeg, e1] at p; exact p.elim
  | some d1 =>
    have o1 := ob_of g r1 e1
    simp only [oNeg, e1] at p
    cases d1 <;> first | exact p.elim | skip
    exact ⟨_, o1, Post.ok g p (.int _)⟩
def rDD (K : PySem.W.Frag) (c : D → D → Bool) (f : D → D → Bool) : R2 := fun x y H Q => ∃ d e, Dp K H x d ∧ Dp K H y e ∧ shal d = true ∧ shal e = true ∧ c d e = true ∧ Q (.bl (f d e)) H
theorem shal_p {d : D} (h : shal d = true) : d.plain = true ∧ d.depth ≤ 60 := by simpa [shal] using h
theorem ok_eq : OpOk τ K mg (rDD K (fun _ _ => true) PyData.eqv) oEq := by
  intro φ F H S x y v u Q W g r1 r2 p
  cases e1 : view S v with
  | none => simp only [oEq, e1] at p; exact p.elim
  | some d1 =>
    cases e2 : view S u with
    | none => simp only [oEq, e1, e2] at p; exact p.elim
    | some d2 =>
      simp only [oEq, e1, e2] at p
      by_cases hl : (shal d1 && shal d2) = true
      · rw [if_pos hl] at p
        have h2 : shal d1 = true ∧ shal d2 = true := by simpa using hl
        exact ⟨d1, d2, (ob_of g r1 e1).dp (shal_p h2.1).1, (ob_of g r2 e2).dp (shal_p h2.2).1, h2.1, h2.2, rfl, Post.ok g p (.bl _)⟩
      · rw [if_neg hl] at p; exact p.elim
theorem ok_ne : OpOk τ K mg (rDD K (fun _ _ => true) fun d e => !PyData.eqv d e) oNe := by
  intro φ F H S x y v u Q W g r1 r2 p
  cases e1 : view S v with
  | none => simp only [oNe, e1] at p; exact p.elim
  | some d1 =>
    cases e2 : view S u with
    | none => simp only [oNe, e1, e2] at p; exact p.elim
    | some d2 =>
      simp only [oNe, e1, e2] at p
      by_cases hl : (shal d1 && shal d2) = true
      · rw [if_pos hl] at p
        have h2 : shal d1 = true ∧ shal d2 = true := by simpa using hl
        exact ⟨d1, d2, (ob_of g r1 e1).dp (shal_p h2.1).1, (ob_of g r2 e2).dp (shal_p h2.2).1, h2.1, h2.2, rfl, Post.ok g p (.bl _)⟩
      · rw [if_neg hl] at p; exact p.elim
def rOrd (K : PySem.W.Frag) (fi : Int → Int → Bool) (f : D → D → Bool) : R2 := fun x y H Q => rI0 (fun i j => V.bl (fi i j)) x y H Q ∨ rDD K ordOk f x y H Q
theorem ordOk_p {x y : D} (h : ordOk x y = true) : shal x = true ∧ shal y = true ∧ PySem.W.alike x y = true ∧ x ≠ .none := by
  simp only [ordOk, Bool.and_eq_true, Bool.not_eq_true'] at h
  obtain ⟨⟨⟨h1, h2⟩, h3⟩, h4⟩ := h
  exact ⟨h1, h2, h3, fun e => by subst e; cases h4⟩
theorem ok_ord {o : Vl → Vl → Store → Res Vl} {fi : Int → Int → Bool} {f : D → D → Bool} (h0 : ∀ v u S, (view S v = none ∨ view S u = none) → o v u S = .bad) (h1 : ∀ v u S i j, view S v = some (.int i) → view S u = some (.int j) → o v u S = .ok (.d (.bool (fi i j))) S)
    (h2 : ∀ v u S d1 d2, view S v = some d1 → view S u = some d2 → (¬ ∃ i j, d1 = .int i ∧ d2 = .int j) → o v u S = if ordOk d1 d2 = true then .ok (.d (.bool (f d1 d2))) S else .bad) : OpOk τ K mg (rOrd K fi f) o := by
  intro φ F H S x y v u Q W g r1 r2 p
  cases e1 : view S v with
  | none => rw [h0 v u S (.inl e1)] at p; exact p.elim
  | some d1 =>
    cases e2 : view S u with
    | none => rw [h0 v u S (.inr e2)] at p; exact p.elim
    | some d2 =>
      have o1 := ob_of g r1 e1
      have o2 := ob_of g r2 e2
      by_cases q : ∃ i j, d1 = .int i ∧ d2 = .int j
      · obtain ⟨i, j, rfl, rfl⟩ := q
        rw [h1 v u S i j e1 e2] at p
        exact .inl ⟨_, _, o1, o2, Post.ok g p (.bl _)⟩
      · rw [h2 v u S d1 d2 e1 e2 q] at p
        by_cases hl : ordOk d1 d2 = true
        · rw [if_pos hl] at p
          exact .inr ⟨d1, d2, o1.dp (shal_p (ordOk_p hl).1).1, o2.dp (shal_p (ordOk_p hl).2.1).1, (ordOk_p hl).1, (ordOk_p hl).2.1, hl, Post.ok g p (.bl _)⟩
        · rw [if_neg hl] at p; exact p.elim
theorem ok_lt : OpOk τ K mg (rOrd K (fun i j => decide (i < j)) PySem.W.dataLt) oLt := by
  refine ok_ord (fun v u S h => ?_) (fun v u S i j h1 h2 => by simp only [oLt, h1, h2]) fun v u S d1 d2 h1 h2 n => ?_
  · unfold oLt
    rcases h with h | h
    · simp only [h]
    · cases e : view S v with
      | none => simp only [h]
      | some d => simp only [h]
  · simp only [oLt, h1, h2]
    cases d1 <;> cases d2 <;> first | rfl | exact (n ⟨_, _, rfl, rfl⟩).elim
theorem ok_gt : OpOk τ K mg (rOrd K (fun i j => decide (j < i)) fun d e => PySem.W.dataLt e d) oGt := by
  refine ok_ord (fun v u S h => ?_) (fun v u S i j h1 h2 => by simp only [oGt, h1, h2]) fun v u S d1 d2 h1 h2 n => ?_
  · unfold oGt
    rcases h with h | h
    · simp only [h]
    · cases e : view S v with
      | none => simp only [h]
      | some d => simp only [h]
  · simp only [oGt, h1, h2]
    cases d1 <;> cases d2 <;> first | rfl | exact (n ⟨_, _, rfl, rfl⟩).elim
theorem ok_le : OpOk τ K mg (rOrd K (fun i j => decide (i ≤ j)) fun d e => !PySem.W.dataLt e d) oLe := by
  refine ok_ord (fun v u S h => ?_) (fun v u S i j h1 h2 => by simp only [oLe, h1, h2]) fun v u S d1 d2 h1 h2 n => ?_
  · unfold oLe
    rcases h with h | h
    · simp only [h]
    · cases e : view S v with
      | none => simp only [h]
      | some d => simp only [h]
  · simp only [oLe, h1, h2]
    cases d1 <;> cases d2 <;> first | rfl | exact (n ⟨_, _, rfl, rfl⟩).elim
theorem ok_ge : OpOk τ K mg (rOrd K (fun i j => decide (j ≤ i)) fun d e => !PySem.W.dataLt d e) oGe := by
  refine ok_ord (fun v u S h => ?_) (fun v u S i j h1 h2 => by simp only [oGe, h1, h2]) fun v u S d1 d2 h1 h2 n => ?_
  · unfold oGe
    rcases h with h | h
    · simp only [h]
    · cases e : view S v with
      | none => simp only [h]
      | some d => simp only [h]
  · simp only [oGe, h1, h2]
    cases d1 <;> cases d2 <;> first | rfl | exact (n ⟨_, _, rfl, rfl⟩).elim
def rInP (K : PySem.W.Frag) (neg : Bool) : R2 := fun x y H Q => ∃ d es, Dp K H x d ∧ (Dp K H y (.list es) ∨ Dp K H y (.tuple es)) ∧ shal d = true ∧ shal (.list es) = true ∧ Q (.bl (if neg = true then !isIn d es else isIn d es)) H
theorem shal_tup {es : List D} : shal (.tuple es) = shal (.list es) := by simp [shal, PyData.plain, PyData.depth]
theorem ok_in {neg : Bool} : OpOk τ K mg (rInP K neg) (oIn neg) := by
  intro φ F H S x y v u Q W g r1 r2 p
  cases e1 : view S v with
  | none => simp only [oIn, e1] at p; exact p.elim
  | some d1 =>
    cases e2 : view S u with
    | none => simp only [oIn, e1, e2] at p; exact p.elim
    | some d2 =>
      simp only [oIn, e1, e2] at p
      cases d2 <;> dsimp only at p <;> first | exact p.elim | skip
      · rename_i es
        by_cases hl : (shal d1 && shal (.list es)) = true
        · rw [if_pos hl] at p
          have h2 : shal d1 = true ∧ shal (.list es) = true := by simpa using hl
          exact ⟨d1, es, (ob_of g r1 e1).dp (shal_p h2.1).1, .inl ((ob_of g r2 e2).dp (shal_p h2.2).1), h2.1, h2.2, Post.ok g p (.bl _)⟩
        · rw [if_neg hl] at p; exact p.elim
      · rename_i es
        by_cases hl : (shal d1 && shal (.tuple es)) = true
        · rw [if_pos hl] at p
          have h2 : shal d1 = true ∧ shal (.tuple es) = true := by simpa using hl
          exact ⟨d1, es, (ob_of g r1 e1).dp (shal_p h2.1).1, .inr ((ob_of g r2 e2).dp (shal_p h2.2).1), h2.1, by rw [← shal_tup]; exact h2.2, Post.ok g p (.bl _)⟩
        · rw [if_neg hl] at p; exact p.elim
def rIsX (neg : Bool) : R2 := fun x y H Q => (y = .non ∧ Q (.bl (if neg = true then !decide (x = .non) else decide (x = .non))) H) ∨ ∃ a b : Bool, x = .bl a ∧ y = .bl b ∧ Q (.bl (if neg = true then !decide (a = b) else decide (a = b))) H
theorem isNone_ob {d : D} (o : Ob K F H x d) : decide (x = .non) = isNone d := by
  cases d with
  | none => cases o; rfl
  | bool b => cases o; rfl
  | int b => cases o; rfl
  | str b => cases o; rfl
  | list b => obtain ⟨a, xs, rfl, _⟩ := o; rfl
  | tuple b => obtain ⟨a, xs, rfl, _⟩ := o; rfl
  | dict b => obtain ⟨a, xs, rfl, _⟩ := o; rfl
theorem ok_is {neg : Bool} : OpOk τ K mg (rIsX neg) (oIs neg) := by
  intro φ F H S x y v u Q W g r1 r2 p
  cases e2 : view S u with
  | none => simp only [oIs, e2] at p; exact p.elim
  | some d2 =>
    have o2 := ob_of g r2 e2
    simp only [oIs, e2] at p
    cases d2 <;> first | exact p.elim | skip
    · cases e1 : view S v with
      | none => simp only [e1] at p; exact p.elim
      | some d1 =>
        simp only [e1] at p
        refine .inl ⟨o2, ?_⟩
        rw [isNone_ob (ob_of g r1 e1)]
        exact Post.ok g p (.bl _)
    · cases e1 : view S v with
      | none => simp only [e1] at p; exact p.elim
      | some d1 =>
        simp only [e1] at p
        cases d1 <;> first | exact p.elim | skip
        exact .inr ⟨_, _, ob_of g r1 e1, o2, Post.ok g p (.bl _)⟩
theorem FzAll.atI {xs : List V} {ds : List D} {i : Int} {d : D} (h : FzAll K F H xs ds) (e : atI ds i = some d) : ∃ v, atI xs i = some v ∧ Fz K F H v d := by
  unfold L2.atI at e ⊢
  rw [h.len]
  cases q : ixN ds.length i with
  | none => rw [q] at e; cases e
  | some j =>
    rw [q] at e
    exact h.get e
theorem ok_ix : OpOk τ K mg (rIx K) oIx := by
  intro φ F H S x y v u Q W g r1 r2 p
  cases e1 : view S v with
  | none => simp only [oIx, e1] at p; exact p.elim
  | some d1 =>
    cases e2 : view S u with
    | none => simp only [oIx, e1, e2] at p; cases d1 <;> exact p.elim
    | some d2 =>
      have o1 := ob_of g r1 e1
      have o2 := ob_of g r2 e2
      simp only [oIx, e1, e2] at p
      cases d1 <;> cases d2 <;> dsimp only at p <;> first | exact p.elim | skip
      · rename_i z i
        by_cases hl : z.length ≤ sizeLine
        · rw [if_pos hl] at p
          cases q : atI z.cps.toList i with
          | none => rw [q] at p; exact p.elim
          | some c =>
            rw [q] at p
            exact .inr (.inr ⟨z, i, c, o1, o2, hl, q, Post.ok g p (.str _)⟩)
        · rw [if_neg hl] at p; exact p.elim
      · rename_i ds i
        obtain ⟨a, xs, h1, h2, h3⟩ := o1
        cases q : atI ds i with
        | none => rw [q] at p; exact p.elim
        | some d =>
          rw [q] at p
          obtain ⟨w, hw, fw⟩ := h3.atI q
          exact .inl ⟨a, xs, i, w, h1, o2, .inl (.inl h2), hw, Post.ok g p fw⟩
      · rename_i ds i
        obtain ⟨a, xs, h1, h2, h3⟩ := o1
        cases q : atI ds i with
        | none => rw [q] at p; exact p.elim
        | some d =>
          rw [q] at p
          obtain ⟨w, hw, fw⟩ := h3.atI q
          exact .inr (.inl ⟨a, xs, i, w, h1, o2, h2.sq, hw, Post.ok g p fw⟩)
end
section
variable {X : Cx}
theorem op_addX : OpR X (binaryOp .Add) (fun x y H Q => rI0 (fun i j => V.int (i + j)) x y H Q ∨ (∃ i j, x = .str i ∧ y = .str j ∧ i.length + j.length ≤ sizeLine ∧ Q (.str (i ++ j)) H) ∨ rCatA X.K x y H Q ∨ rCat x y H Q) := op_add.or (op_add_str.or (op_catA.or op_cat))
theorem op_mulX' : OpR X (binaryOp .Mult) (fun x y H Q => rMulX x y H Q ∨ rRep x y H Q ∨ rRepT X.K x y H Q) := OpR.or (opI fun _ _ _ _ _ _ _ hc q => mul_int q (mulOk_ok hc)) (op_rep.or op_repT)
theorem op_divX : OpR X (binaryOp .FloorDiv) (fun x y H Q => rDivX x y H Q ∨ rI CDivN (fun i j => V.int (i.fdiv j)) x y H Q) := by
  refine OpR.or (fun pins s σ H x y v u Q I rx ry h => ?_) op_fdivN
  obtain ⟨i, j, e1, e2, ⟨h1, h2⟩, q⟩ := h
  refine op_fdivW pins s σ H x y v u Q I rx ry ⟨i, j, e1, e2, ⟨h1, ?_⟩, q⟩
  exact Nat.lt_of_le_of_lt (log2_lt (natAbs_pow h1 h2)) (by decide)
theorem op_modX : OpR X (binaryOp .Mod) (fun x y H Q => rI (fun _ j => 0 < j) (fun i j => V.int (i % j)) x y H Q ∨ rI (fun _ j => j ≠ 0) (fun i j => V.int (i.fmod j)) x y H Q) := op_mod.or op_modN
theorem depth_min {A : Around} {d e : D} (hu : A.units + 64 < cLine) (h : shal d = true) : A.units + min d.depth e.depth < cLine := by
  have := (shal_p h).2
  omega
theorem op_eqX (hu : X.A.units + 64 < cLine) : OpR X (compareOp .Eq) (rDD X.K (fun _ _ => true) PyData.eqv) := by
  intro pins s σ H x y v u Q I rx ry h
  obtain ⟨d, e, hd, he, sd, se, _, q⟩ := h
  obtain ⟨as, r1⟩ := Dp.reads I d x v hd rx
  obtain ⟨bs, r2⟩ := Dp.reads I e y u he ry
  exact PySem.SeqAt.eq_plain r1 r2 (shal_p sd).1 (shal_p se).1 (depth_min hu sd) ⟨.bl _, H, I, rfl, q⟩
theorem op_neX (hu : X.A.units + 64 < cLine) : OpR X (compareOp .NotEq) (rDD X.K (fun _ _ => true) fun d e => !PyData.eqv d e) := by
  intro pins s σ H x y v u Q I rx ry h
  obtain ⟨d, e, hd, he, sd, se, _, q⟩ := h
  obtain ⟨as, r1⟩ := Dp.reads I d x v hd rx
  obtain ⟨bs, r2⟩ := Dp.reads I e y u he ry
  exact PySem.SeqAt.ne_plain r1 r2 (shal_p sd).1 (shal_p se).1 (depth_min hu sd) ⟨.bl _, H, I, rfl, q⟩
theorem op_ltX (hu : X.A.units + 64 < cLine) : OpR X (compareOp .Lt) (rOrd X.K (fun i j => decide (i < j)) PySem.W.dataLt) := by
  refine OpR.or op_lt fun pins s σ H x y v u Q I rx ry h => ?_
  obtain ⟨d, e, hd, he, sd, se, c, q⟩ := h
  obtain ⟨as, r1⟩ := Dp.reads I d x v hd rx
  obtain ⟨bs, r2⟩ := Dp.reads I e y u he ry
  exact PySem.W.lt_data r1 r2 (ordOk_p c).2.2.1 (ordOk_p c).2.2.2 (depth_min hu sd) ⟨.bl _, H, I, rfl, q⟩
theorem op_gtX (hu : X.A.units + 64 < cLine) : OpR X (compareOp .Gt) (rOrd X.K (fun i j => decide (j < i)) fun d e => PySem.W.dataLt e d) := by
  refine OpR.or op_gt fun pins s σ H x y v u Q I rx ry h => ?_
  obtain ⟨d, e, hd, he, sd, se, c, q⟩ := h
  obtain ⟨as, r1⟩ := Dp.reads I d x v hd rx
  obtain ⟨bs, r2⟩ := Dp.reads I e y u he ry
  exact PySem.W.gt_data r1 r2 (ordOk_p c).2.2.1 (ordOk_p c).2.2.2 (depth_min hu sd) ⟨.bl _, H, I, rfl, q⟩
theorem op_leX (hu : X.A.units + 64 < cLine) : OpR X (compareOp .LtE) (rOrd X.K (fun i j => decide (i ≤ j)) fun d e => !PySem.W.dataLt e d) := by
  refine OpR.or op_le fun pins s σ H x y v u Q I rx ry h => ?_
  obtain ⟨d, e, hd, he, sd, se, c, q⟩ := h
  obtain ⟨as, r1⟩ := Dp.reads I d x v hd rx
  obtain ⟨bs, r2⟩ := Dp.reads I e y u he ry
  exact PySem.W.le_data r1 r2 (ordOk_p c).2.2.1 (ordOk_p c).2.2.2 (depth_min hu sd) ⟨.bl _, H, I, rfl, q⟩
theorem op_geX (hu : X.A.units + 64 < cLine) : OpR X (compareOp .GtE) (rOrd X.K (fun i j => decide (j ≤ i)) fun d e => !PySem.W.dataLt d e) := by
  refine OpR.or op_ge fun pins s σ H x y v u Q I rx ry h => ?_
  obtain ⟨d, e, hd, he, sd, se, c, q⟩ := h
  obtain ⟨as, r1⟩ := Dp.reads I d x v hd rx
  obtain ⟨bs, r2⟩ := Dp.reads I e y u he ry
  exact PySem.W.ge_data r1 r2 (ordOk_p c).2.2.1 (ordOk_p c).2.2.2 (depth_min hu sd) ⟨.bl _, H, I, rfl, q⟩
theorem shal_list {es : List D} (h : shal (.list es) = true) : PyData.plainAll es = true ∧ PyData.depthAll es ≤ 59 := by
  have := shal_p h
  simp only [PyData.plain, PyData.depth] at this
  exact ⟨this.1, by omega⟩
theorem op_inX (hu : X.A.units + 64 < cLine) : OpR X (compareOp .In) (rInP X.K false) := by
  intro pins s σ H x y v u Q I rx ry h
  obtain ⟨d, es, hd, he, sd, se, q⟩ := h
  obtain ⟨as, r1⟩ := Dp.reads I d x v hd rx
  have hr : X.A.units + 1 + min (PyData.depthAll es) d.depth < cLine := by have := (shal_p sd).2; omega
  rcases he with he | he
  · obtain ⟨bs, r2⟩ := Dp.reads I _ y u he ry
    exact PySem.SeqAt.in_list_data r2 r1 (shal_list se).1 (shal_p sd).1 hr ⟨.bl _, H, I, rfl, q⟩
  · obtain ⟨bs, r2⟩ := Dp.reads I _ y u he ry
    exact PySem.SeqAt.in_tuple_data r2 r1 (shal_list se).1 (shal_p sd).1 hr ⟨.bl _, H, I, rfl, q⟩
theorem op_notInX (hu : X.A.units + 64 < cLine) : OpR X (compareOp .NotIn) (rInP X.K true) := by
  intro pins s σ H x y v u Q I rx ry h
  obtain ⟨d, es, hd, he, sd, se, q⟩ := h
  obtain ⟨as, r1⟩ := Dp.reads I d x v hd rx
  have hr : X.A.units + 1 + min (PyData.depthAll es) d.depth < cLine := by have := (shal_p sd).2; omega
  rcases he with he | he
  · obtain ⟨bs, r2⟩ := Dp.reads I _ y u he ry
    exact PySem.SeqAt.notIn_list_data r2 r1 (shal_list se).1 (shal_p sd).1 hr ⟨.bl _, H, I, rfl, q⟩
  · obtain ⟨bs, r2⟩ := Dp.reads I _ y u he ry
    exact PySem.SeqAt.notIn_tuple_data r2 r1 (shal_list se).1 (shal_p sd).1 hr ⟨.bl _, H, I, rfl, q⟩
theorem op_isX : OpR X (compareOp .Is) (rIsX false) := OpR.or op_isN op_isBl
theorem op_isNotX : OpR X (compareOp .IsNot) (rIsX true) := OpR.or op_notN op_notBl
end
section
variable {X : Cx} {W : WX} {k : Nat} {a b e : Expr} {fa fb : Ev} {pos : Pos}
theorem de_ix {j : Nat} (ha : DE τ X W a fa) (hb : DE τ X W b fb) (hs : PlainIx b := by exact fun _ _ => rfl) : DE τ X W (.Subscript a b pos) (eBin oIx fa fb) := ⟨PE.mono (pe_ix ix_seq ha.r hb.r hs) fun _ _ _ h => re2 ok_ix h⟩
end
def tyN : D → String
  | .none => "NoneType"
  | .bool _ => "bool"
  | .int _ => "int"
  | .str _ => "str"
  | .list _ => "list"
  | .tuple _ => "tuple"
  | .dict _ => "dict"
def isTy : Ty → D → Bool
  | .int, .int _ => true
  | .int, .bool _ => true
  | .bool, .bool _ => true
  | .str, .str _ => true
  | .tup, .tuple _ => true
  | .lst, .list _ => true
  | .dct, .dict _ => true
  | _, _ => false
theorem kit_isTy {K : PySem.W.Frag} (T : Ty) (d : D) : PySem.W.kitOne K (.type (tyN d)) (.type T.name) = some (isTy T d) := by
  cases T <;> cases d <;> (refine kit_ty ?_; dsimp only [tyN, Ty.name, isTy]; decide +kernel)
section
variable {K : PySem.W.Frag} {mg : Str → Option Value} {φ : Nat → Addr} {F : Addr → Prop} {H : Hp} {S : Store} {x y : V} {v u : Vl} {Q : VK} {W : XW} {n : Nat} {m : Bool}
theorem Ob.ty {d : D} (o : Ob K F H x d) : TyX K H x (.type (tyN d)) := by
  cases d with
  | none => cases o; exact .base .non
  | bool b => cases o; exact .base (.bl _)
  | int b => cases o; exact .base (.int _)
  | str b => cases o; exact .base (.str _)
  | list b => obtain ⟨a, xs, rfl, h, _⟩ := o; exact .base (.lst h)
  | tuple b =>
    obtain ⟨a, xs, rfl, h, _⟩ := o
    rcases h with ⟨_, h⟩ | ⟨o, its, n, h1, h2, h3, _⟩
    · exact .base (.tup h)
    · exact .kTuple h1 h2
  | dict b => obtain ⟨a, xs, rfl, h, _⟩ := o; exact .base (.dK h)
theorem reps1 {xs : List V} {v : Vl} (r : RepVs K mg φ F H n xs [v]) : ∃ x, xs = [x] ∧ RepV K mg φ F H n x v := by
  cases xs with
  | nil => exact r.elim
  | cons x xs =>
    cases xs with
    | nil => exact ⟨x, rfl, r.1⟩
    | cons y ys => exact r.2.elim
theorem reps2 {xs : List V} {v u : Vl} (r : RepVs K mg φ F H n xs [v, u]) : ∃ x y, xs = [x, y] ∧ RepV K mg φ F H n x v ∧ RepV K mg φ F H n y u := by
  cases xs with
  | nil => exact r.elim
  | cons x xs =>
    obtain ⟨y, e, h⟩ := reps1 r.2
    exact ⟨x, y, by rw [e], r.1, h⟩
end
def fIsi : Fn := fun vs S => match vs with
  | [v, .ty T] => match view S v with
    | some d => .ok (.d (.bool (isTy T d))) S
    | none => .bad
  | [v, .tys Ts] => match view S v with
    | some d => .ok (.d (.bool (Ts.any fun T => isTy T d))) S
    | none => .bad
  | _ => .bad
theorem kit_any {K : PySem.W.Frag} {d : D} : ∀ Ts : List Ty, PySem.W.kitAny K (.type (tyN d)) (Ts.map fun T => .type T.name) = some (Ts.any fun T => isTy T d)
  | [] => rfl
  | T :: Ts => by
    show PySem.W.kitAny K _ (Value.type T.name :: Ts.map fun T => .type T.name) = _
    unfold PySem.W.kitAny
    rw [kit_isTy, List.any_cons]
    cases e : isTy T d with
    | true => rfl
    | false => exact kit_any Ts
theorem ok_isi {K : PySem.W.Frag} {mg : Str → Option Value} : CallOk τ K mg (fun xs H Q => rIsi K xs H Q ∨ rIsiT K xs H Q) fIsi := by
  intro φ F H S xs vs Q W g r p
  unfold fIsi at p
  split at p
  · rename_i v T
    obtain ⟨x, y, rfl, r1, r2⟩ := reps2 r
    cases e : view S v with
    | none => rw [e] at p; exact p.elim
    | some d =>
      rw [e] at p
      have r2 : y = .ty T.name := r2
      subst r2
      exact .inl ⟨x, _, _, _, _, rfl, .ty _, (ob_of g r1 e).ty, kit_isTy T d, Post.ok g p (.bl _)⟩
  · rename_i v Ts
    obtain ⟨x, y, rfl, r1, r2⟩ := reps2 r
    cases e : view S v with
    | none => rw [e] at p; exact p.elim
    | some d =>
      rw [e] at p
      obtain ⟨a, rfl, h1, h2⟩ := r2
      refine .inr ⟨x, a, _, _, Ts.map fun T => .type T.name, _, rfl, h2, ?_, (ob_of g r1 e).ty, kit_any Ts, Post.ok g p (.bl _)⟩
      clear h2 p e r
      induction Ts with
      | nil => exact .nil
      | cons T Ts ih => exact .cons (.ty _) ih
  · exact p.elim
theorem call_isiX {X : Cx} : CallR X (.builtin "isinstance") (fun xs H Q => rIsi X.K xs H Q ∨ rIsiT X.K xs H Q) := call_isi.or call_isiT
def fLen : Fn := fun vs S => match vs with
  | [v] => match view S v with
    | some (.list xs) => .ok (.d (.int xs.length)) S
    | some (.tuple xs) => .ok (.d (.int xs.length)) S
    | some (.str z) => if z.length ≤ sizeLine then .ok (.d (.int z.length)) S else .bad
    | some (.dict es) => .ok (.d (.int es.length)) S
    | _ => .bad
  | _ => .bad
def fAbs : Fn := fun vs S => match vs with
  | [v] => match view S v with
    | some (.int i) => .ok (.d (.int (if i < 0 then -i else i))) S
    | _ => .bad
  | _ => .bad
def fInt : Fn := fun vs S => match vs with
  | [v] => match view S v with
    | some (.int i) => .ok (.d (.int i)) S
    | some (.bool k) => .ok (.d (.int (if k then 1 else 0))) S
    | _ => .bad
  | _ => .bad
def fMax2 : Fn := fun vs S => match vs with
  | [v, u] => match view S v, view S u with
    | some (.int i), some (.int j) => .ok (.d (.int (if j > i then j else i))) S
    | _, _ => .bad
  | _ => .bad
def fMin2 : Fn := fun vs S => match vs with
  | [v, u] => match view S v, view S u with
    | some (.int i), some (.int j) => .ok (.d (.int (if j < i then j else i))) S
    | _, _ => .bad
  | _ => .bad
section
variable {K : PySem.W.Frag} {mg : Str → Option Value}
theorem ok_abs : CallOk τ K mg (fun xs H Q => ∃ i, xs = [.int i] ∧ Q (.int (if i < 0 then -i else i)) H) fAbs := by
  intro φ F H S xs vs Q W g r p
  unfold fAbs at p
  split at p
  · rename_i v
    obtain ⟨x, rfl, r1⟩ := reps1 r
    cases e : view S v with
    | none => rw [e] at p; exact p.elim
    | some d =>
      rw [e] at p
      have o := ob_of g r1 e
      cases d <;> first | exact p.elim | skip
      exact ⟨_, by rw [show x = _ from o], Post.ok g p (.int _)⟩
  · exact p.elim
theorem ok_int : CallOk τ K mg (fun xs H Q => (∃ i, xs = [.int i] ∧ Q (.int i) H) ∨ ∃ k, xs = [.bl k] ∧ Q (.int (if k then 1 else 0)) H) fInt := by
  intro φ F H S xs vs Q W g r p
  unfold fInt at p
  split at p
  · rename_i v
    obtain ⟨x, rfl, r1⟩ := reps1 r
    cases e : view S v with
    | none => rw [e] at p; exact p.elim
    | some d =>
      rw [e] at p
      have o := ob_of g r1 e
      cases d <;> first | exact p.elim | skip
      · exact .inr ⟨_, by rw [show x = _ from o], Post.ok g p (.int _)⟩
      · exact .inl ⟨_, by rw [show x = _ from o], Post.ok g p (.int _)⟩
  · exact p.elim
theorem ok_max2 : CallOk τ K mg (fun xs H Q => ∃ i j, xs = [.int i, .int j] ∧ Q (.int (if j > i then j else i)) H) fMax2 := by
  intro φ F H S xs vs Q W g r p
  unfold fMax2 at p
  split at p
  · rename_i v u
    obtain ⟨x, y, rfl, r1, r2⟩ := reps2 r
    split at p
    · rename_i i j e1 e2
      exact ⟨i, j, by rw [show x = _ from ob_of g r1 e1, show y = _ from ob_of g r2 e2], Post.ok g p (.int _)⟩
    · exact p.elim
  · exact p.elim
theorem ok_min2 : CallOk τ K mg (fun xs H Q => ∃ i j, xs = [.int i, .int j] ∧ Q (.int (if j < i then j else i)) H) fMin2 := by
  intro φ F H S xs vs Q W g r p
  unfold fMin2 at p
  split at p
  · rename_i v u
    obtain ⟨x, y, rfl, r1, r2⟩ := reps2 r
    split at p
    · rename_i i j e1 e2
      exact ⟨i, j, by rw [show x = _ from ob_of g r1 e1, show y = _ from ob_of g r2 e2], Post.ok g p (.int _)⟩
    · exact p.elim
  · exact p.elim
def rLenX (K : PySem.W.Frag) : List V → Hp → VK → Prop := fun xs H Q => (∃ p ys, xs = [.ref p] ∧ (SqL K H p ys ∨ SqT K H p ys) ∧ Q (.int ys.length) H) ∨ (∃ z, xs = [.str z] ∧ z.length ≤ sizeLine ∧ Q (.int z.length) H) ∨ ∃ a kvs, xs = [V.ref a] ∧ H a = some (.dK kvs) ∧ Q (.int kvs.length) H
theorem ok_len : CallOk τ K mg (rLenX K) fLen := by
  intro φ F H S xs vs Q W g r p
  unfold fLen at p
  split at p
  · rename_i v
    obtain ⟨x, rfl, r1⟩ := reps1 r
    split at p
    · rename_i ds e
      obtain ⟨a, xs, rfl, h1, h2⟩ := ob_of g r1 e
      exact .inl ⟨a, xs, rfl, .inl (.inl (.inl h1)), by rw [h2.len]; exact Post.ok g p (.int _)⟩
    · rename_i ds e
      obtain ⟨a, xs, rfl, h1, h2⟩ := ob_of g r1 e
      exact .inl ⟨a, xs, rfl, .inr h1.sq, by rw [h2.len]; exact Post.ok g p (.int _)⟩
    · rename_i z e
      by_cases hl : z.length ≤ sizeLine
      · rw [if_pos hl] at p
        exact .inr (.inl ⟨z, by rw [show x = _ from ob_of g r1 e], hl, Post.ok g p (.int _)⟩)
      · rw [if_neg hl] at p; exact p.elim
    · rename_i ds e
      obtain ⟨a, xs, rfl, h1, h2⟩ := ob_of g r1 e
      exact .inr (.inr ⟨a, xs, rfl, h1, by rw [h2.len]; exact Post.ok g p (.int _)⟩)
    · exact p.elim
  · exact p.elim
theorem call_lenX {X : Cx} : CallR X (.builtin "len") (rLenX X.K) := call_len_seq.or (call_len_str.or call_lenD)
end
def seqOf : D → Option (List D)
  | .list xs => some xs
  | .tuple xs => some xs
  | _ => none
def rSeq (K : PySem.W.Frag) (c : List D → Prop) (k : List D → List V → Hp → VK → Prop) : List V → Hp → VK → Prop := fun vs H Q => ∃ a xs ds, vs = [.ref a] ∧ (SqL K H a xs ∨ SqT K H a xs) ∧ DpAll K H xs ds ∧ PyData.plainAll ds = true ∧ PyData.depthAll ds ≤ 60 ∧ c ds ∧ k ds xs H Q
def seqOk (ds : List D) : Bool := PyData.plainAll ds && decide (PyData.depthAll ds ≤ 60)
def fSeq (k : List D → Store → Res Vl) : Fn := fun vs S => match vs with
  | [v] => match view S v with
    | some d => match seqOf d with
      | some ds => if seqOk ds = true then k ds S else .bad
      | none => .bad
    | none => .bad
  | _ => .bad
theorem seqOk_p {ds : List D} (h : seqOk ds = true) : PyData.plainAll ds = true ∧ PyData.depthAll ds ≤ 60 := by simpa [seqOk] using h
theorem ok_seq {K : PySem.W.Frag} {mg : Str → Option Value} {c : List D → Prop} {k : List D → List V → Hp → VK → Prop} {o : List D → Store → Res Vl}
    (h : ∀ {φ : Nat → Addr} {F : Addr → Prop} {H : Hp} {S : Store} {xs : List V} {ds : List D} {Q : VK} {W : XW}, SG τ K φ F H S → FzAll K F H xs ds → Post τ K mg W S.length φ F H Q (o ds S) → c ds ∧ k ds xs H Q) : CallOk τ K mg (rSeq K c k) (fSeq o) := by
  intro φ F H S xs vs Q W g r p
  unfold fSeq at p
  split at p
  · rename_i v
    obtain ⟨x, rfl, r1⟩ := reps1 r
    cases e : view S v with
    | none => rw [e] at p; exact p.elim
    | some d =>
      simp only [e] at p
      have ob := ob_of g r1 e
      cases e2 : seqOf d with
      | none => simp only [e2] at p; exact p.elim
      | some ds =>
        simp only [e2] at p
        by_cases hl : seqOk ds = true
        · simp only [hl, if_true] at p
          have hp := seqOk_p hl
          cases d <;> first | (cases e2; skip) | cases e2
          · obtain ⟨a, ys, rfl, h1, h2⟩ := ob
            exact ⟨a, ys, ds, rfl, .inl (.inl (.inl h1)), h2.dp _ _ hp.1, hp.1, hp.2, h g h2 p⟩
          · obtain ⟨a, ys, rfl, h1, h2⟩ := ob
            exact ⟨a, ys, ds, rfl, .inr h1.sq, h2.dp _ _ hp.1, hp.1, hp.2, h g h2 p⟩
        · simp only [hl] at p; exact p.elim
  · exact p.elim
def alikeOk (ds : List D) : Bool := (ds.all fun x => ds.all fun y => PySem.W.alike x y) && ds.all fun x => !isNone x
theorem alikeOk_p {ds : List D} (h : alikeOk ds = true) : PySem.W.AlikeAll ds := by
  simp only [alikeOk, Bool.and_eq_true, List.all_eq_true, Bool.not_eq_true'] at h
  exact ⟨h.1, fun x hx e => by subst e; exact nomatch h.2 _ hx⟩
def fitsB : D → Bool
  | .str x => decide (x.length ≤ sizeLine)
  | .list xs => decide (xs.length ≤ sizeLine)
  | .tuple xs => decide (xs.length ≤ sizeLine)
  | _ => true
theorem fitsB_p {d : D} (h : fitsB d = true) : d.fits63 := by
  cases d with
  | str x =>
    have h' : x.length ≤ sizeLine := of_decide_eq_true h
    rw [sizeLine_eq] at h'
    simp only [PyData.fits63]
    omega
  | list x =>
    have h' : x.length ≤ sizeLine := of_decide_eq_true h
    rw [sizeLine_eq] at h'
    simp only [PyData.fits63]
    omega
  | tuple x =>
    have h' : x.length ≤ sizeLine := of_decide_eq_true h
    rw [sizeLine_eq] at h'
    simp only [PyData.fits63]
    omega
  | _ => trivial
def fAll : Fn := fSeq fun ds S => if ds.all fitsB = true then .ok (.d (.bool (ds.all PyData.truthy))) S else .bad
def fAny : Fn := fSeq fun ds S => if ds.all fitsB = true then .ok (.d (.bool (ds.any PyData.truthy))) S else .bad
def fMin1 : Fn := fSeq fun ds S => match ds with
  | [] => .bad
  | x :: xs => if alikeOk (x :: xs) = true then .ok (.d (PySem.W.minD x xs)) S else .bad
def fMax1 : Fn := fSeq fun ds S => match ds with
  | [] => .bad
  | x :: xs => if alikeOk (x :: xs) = true then .ok (.d (PySem.W.maxD x xs)) S else .bad
def intOf : D → Option Int
  | .int i => some i
  | _ => none
def intsOf : List D → Option (List Int)
  | [] => some []
  | .int i :: ds => (intsOf ds).map (i :: ·)
  | _ :: _ => none
def fSum : Fn := fSeq fun ds S => match intsOf ds with
  | some ns => .ok (.d (.int ns.sum)) S
  | none => .bad
def sortB (ds : List D) : Bool := alikeOk ds && ((ds.all fun d => match d with | .tuple (_ :: _) => true | _ => false) || ds.all fun d => match d with | .tuple _ => false | _ => true)
theorem sortB_p {ds : List D} (h : sortB ds = true) : PySem.W.AllAlike ds ∧ PySem.W.Sortable ds := by
  simp only [sortB, Bool.and_eq_true, Bool.or_eq_true, List.all_eq_true] at h
  obtain ⟨h1, h2⟩ := h
  have a := alikeOk_p h1
  refine ⟨fun d hd e he => a.1 d hd e he, h2.imp (fun h d hd => ?_) fun h d hd => ⟨a.2 d hd, fun xs e => ?_⟩⟩
  · have q := h d hd
    split at q
    · exact ⟨_, _, rfl⟩
    · cases q
  · have q := h d hd
    subst e
    cases q
def sortD (ds : List D) : List D := ds.mergeSort (PySem.W.dataLe false fun d => d)
def fSorted (m : Bool) : Fn := fSeq fun ds S => if (sortB ds && decide (ds.length ≤ sizeLine)) = true then mkL m (sortD ds) S else .bad
def fList (m : Bool) : Fn := fun vs S => match vs with
  | [v] => match view S v with
    | some (.list xs) => mkL m xs S
    | some (.tuple xs) => mkL m xs S
    | _ => .bad
  | _ => .bad
def fTuple : Fn := fun vs S => match vs with
  | [v] => match view S v with
    | some (.list xs) => .ok (.d (.tuple xs)) S
    | some (.tuple xs) => .ok (.d (.tuple xs)) S
    | _ => .bad
  | _ => .bad
section
variable {K : PySem.W.Frag} {mg : Str → Option Value} {F : Addr → Prop} {H : Hp}
theorem ok_allF : CallOk τ K mg (rSeq K (fun ds => ds.all fitsB = true) fun ds _ H Q => Q (.bl (ds.all PyData.truthy)) H) fAll := ok_seq fun {φ F H S xs ds Q W} g f p => by
  by_cases hl : ds.all fitsB = true
  · simp only [hl, if_true] at p
    exact ⟨hl, Post.ok g p (.bl _)⟩
  · simp only [hl] at p; exact p.elim
theorem ok_anyF : CallOk τ K mg (rSeq K (fun ds => ds.all fitsB = true) fun ds _ H Q => Q (.bl (ds.any PyData.truthy)) H) fAny := ok_seq fun {φ F H S xs ds Q W} g f p => by
  by_cases hl : ds.all fitsB = true
  · simp only [hl, if_true] at p
    exact ⟨hl, Post.ok g p (.bl _)⟩
  · simp only [hl] at p; exact p.elim
theorem ok_min1 : CallOk τ K mg (rSeq K (fun ds => ds ≠ [] ∧ alikeOk ds = true) fun ds xs H Q => ∀ (x : D) (r : List D), ds = x :: r → ∀ (i : Nat) (v : V), (xs : List V)[i]? = some v → ds[i]? = some (PySem.W.minD x r) → Q v H) fMin1 := ok_seq fun {φ F H S xs ds Q W} g f p => by
  cases ds with
  | nil => exact p.elim
  | cons x r =>
    by_cases hl : alikeOk (x :: r) = true
    · simp only [hl, if_true] at p
      refine ⟨⟨by simp, hl⟩, fun x' r' e i v h1 h2 => ?_⟩
      cases e
      obtain ⟨w, h3, h4⟩ := f.get h2
      rw [h1] at h3
      cases h3
      exact Post.ok g p h4
    · simp only [hl] at p; exact p.elim
theorem ok_max1 : CallOk τ K mg (rSeq K (fun ds => ds ≠ [] ∧ alikeOk ds = true) fun ds xs H Q => ∀ (x : D) (r : List D), ds = x :: r → ∀ (i : Nat) (v : V), (xs : List V)[i]? = some v → ds[i]? = some (PySem.W.maxD x r) → Q v H) fMax1 := ok_seq fun {φ F H S xs ds Q W} g f p => by
  cases ds with
  | nil => exact p.elim
  | cons x r =>
    by_cases hl : alikeOk (x :: r) = true
    · simp only [hl, if_true] at p
      refine ⟨⟨by simp, hl⟩, fun x' r' e i v h1 h2 => ?_⟩
      cases e
      obtain ⟨w, h3, h4⟩ := f.get h2
      rw [h1] at h3
      cases h3
      exact Post.ok g p h4
    · simp only [hl] at p; exact p.elim
theorem intsOf_fz : ∀ {ds : List D} {ns : List Int} {xs : List V}, intsOf ds = some ns → FzAll K F H xs ds → xs = ns.map V.int
  | [], ns, xs, e, h => by cases e; cases h; rfl
  | d :: ds, ns, xs, e, h => by
    cases d <;> first | cases e | skip
    rename_i i
    cases q : intsOf ds with
    | none => simp [intsOf, q] at e
    | some ms =>
      simp [intsOf, q] at e
      subst e
      cases h with
      | cons h1 h2 =>
        cases h1
        rw [intsOf_fz q h2]
        rfl
theorem ok_sumF : CallOk τ K mg (rSeq K (fun _ => True) fun ds xs H Q => ∃ ns : List Int, xs = ns.map V.int ∧ Q (.int ns.sum) H) fSum := ok_seq fun {φ F H S xs ds Q W} g f p => by
  cases e : intsOf ds with
  | none => simp only [e] at p; exact p.elim
  | some ns =>
    simp only [e] at p
    exact ⟨trivial, ns, intsOf_fz e f, Post.ok g p (.int _)⟩
theorem ok_list {m : Bool} : CallOk τ K mg (fun xs H Q => ∃ p ys, xs = [.ref p] ∧ (SqL K H p ys ∨ SqT K H p ys) ∧ ∀ l, H l = none → Q (.ref l) (upd H l (.lst ys))) (fList m) := by
  intro φ F H S xs vs Q W g r p
  unfold fList at p
  split at p
  · rename_i v
    obtain ⟨x, rfl, r1⟩ := reps1 r
    split at p
    · rename_i ds e
      obtain ⟨a, xs, rfl, h1, h2⟩ := ob_of g r1 e
      exact ⟨a, xs, rfl, .inl (.inl (.inl h1)), Post.newL g h2 p⟩
    · rename_i ds e
      obtain ⟨a, xs, rfl, h1, h2⟩ := ob_of g r1 e
      exact ⟨a, xs, rfl, .inr h1.sq, Post.newL g h2 p⟩
    · exact p.elim
  · exact p.elim
theorem ok_tuple : CallOk τ K mg (fun xs H Q => ∃ p ys, xs = [.ref p] ∧ ((SqL K H p ys ∧ ∀ l, H l = none → Q (.ref l) (upd H l (.tup ys))) ∨ (SqT K H p ys ∧ Q (.ref p) H))) fTuple := by
  intro φ F H S xs vs Q W g r p
  unfold fTuple at p
  split at p
  · rename_i v
    obtain ⟨x, rfl, r1⟩ := reps1 r
    split at p
    · rename_i ds e
      obtain ⟨a, xs, rfl, h1, h2⟩ := ob_of g r1 e
      exact ⟨a, xs, rfl, .inl ⟨.inl (.inl h1), Post.newT g h2 p⟩⟩
    · rename_i ds e
      obtain ⟨a, xs, rfl, h1, h2⟩ := ob_of g r1 e
      exact ⟨a, xs, rfl, .inr ⟨h1.sq, Post.ok g p (.tup h1 h2)⟩⟩
    · exact p.elim
  · exact p.elim
theorem ok_sorted {m : Bool} : CallOk τ K mg (rSeq K (fun ds => sortB ds = true ∧ ds.length ≤ sizeLine) fun ds xs H Q => ∀ ps : List (V × D), ps.Perm (xs.zip ds) → ps.map (·.2) = sortD ds → ∀ l, H l = none → Q (.ref l) (upd H l (.lst (ps.map (·.1))))) (fSorted m) := ok_seq fun {φ F H S xs ds Q W} g f p => by
  by_cases hl : (sortB ds && decide (ds.length ≤ sizeLine)) = true
  · simp only [hl, if_true] at p
    have h2 : sortB ds = true ∧ ds.length ≤ sizeLine := by simpa using hl
    refine ⟨h2, fun ps hp he l hl => ?_⟩
    have all : ∀ q ∈ ps, Fz K F H q.1 q.2 := fun q hq => by
      have hz := hp.mem_iff.mp hq
      obtain ⟨i, hi⟩ := List.mem_iff_getElem?.mp hz
      rw [List.getElem?_zip_eq_some] at hi
      obtain ⟨v, h3, h4⟩ := f.get hi.2
      rw [hi.1] at h3
      cases h3
      exact h4
    have fa : ∀ qs : List (V × D), (∀ q ∈ qs, Fz K F H q.1 q.2) → FzAll K F H (qs.map (·.1)) (qs.map (·.2)) := fun qs => by
      induction qs with
      | nil => intro _; exact .nil
      | cons q qs ih => intro h; exact .cons (h q List.mem_cons_self) (ih fun r hr => h r (List.mem_cons_of_mem _ hr))
    have fz := fa ps all
    rw [he] at fz
    exact Post.newL g fz p l hl
  · simp only [hl] at p; exact p.elim
end
section
variable {X : Cx}
theorem seq_reads {pins : List (Addr × Obj)} {σ : L2.St} {H : Hp} {s : Shared} {a : Addr} {xs : List V} {ds : List D} (I : Inv X pins σ H s) (hq : SqL X.K H a xs ∨ SqT X.K H a xs) (hd : DpAll X.K H xs ds) :
    ∃ (its : List Value) (as : List Addr), Vals xs its ∧ ReadsAll s.heap its ds as ∧ xs.length ≤ sizeLine ∧ ((SqL X.K H a xs ∧ s.heap.IsList a its.toArray) ∨ (SqT X.K H a xs ∧ s.heap.IsTuple a its.toArray)) := by
  rcases hq with hq | hq
  · obtain ⟨its, r, p, hz⟩ := I.list hq
    obtain ⟨as, h⟩ := Dp.readsAll I ds _ its hd r
    exact ⟨its, as, r, h, hz, .inl ⟨hq, p.isList⟩⟩
  · obtain ⟨its, r, p, hz⟩ := I.tuple hq
    obtain ⟨as, h⟩ := Dp.readsAll I ds _ its hd r
    exact ⟨its, as, r, h, hz, .inr ⟨hq, show s.heap.IsTuple a its.toArray from p⟩⟩
theorem all_fits {ds : List D} (h : ds.all fitsB = true) : ∀ x ∈ ds, x.fits63 := fun x hx => fitsB_p (List.all_eq_true.mp h x hx)
theorem call_allX (hc : X.calm = true) : CallR X (.builtin "all") (rSeq X.K (fun ds => ds.all fitsB = true) fun ds _ H Q => Q (.bl (ds.all PyData.truthy)) H) := by
  intro pins s σ H xs us Q I r h
  obtain ⟨a, ys, ds, rfl, hq, hd, hp, hdp, c, q⟩ := h
  obtain ⟨u, rfl, ru⟩ := vals1 r
  cases ru
  obtain ⟨its, as, rv, rd, _, h | h⟩ := seq_reads I hq hd
  · exact PySem.W.all_list_data (I.ok.hd hc) h.2 (by simpa using rd) hp (all_fits c) fun h' tk hk => ⟨.bl _, H, I.kept hk, rfl, q⟩
  · exact PySem.W.all_tuple_data (I.ok.hd hc) h.2 (by simpa using rd) hp (all_fits c) fun h' tk hk => ⟨.bl _, H, I.kept hk, rfl, q⟩
theorem call_anyX (hc : X.calm = true) : CallR X (.builtin "any") (rSeq X.K (fun ds => ds.all fitsB = true) fun ds _ H Q => Q (.bl (ds.any PyData.truthy)) H) := by
  intro pins s σ H xs us Q I r h
  obtain ⟨a, ys, ds, rfl, hq, hd, hp, hdp, c, q⟩ := h
  obtain ⟨u, rfl, ru⟩ := vals1 r
  cases ru
  obtain ⟨its, as, rv, rd, _, h | h⟩ := seq_reads I hq hd
  · exact PySem.W.any_list_data (I.ok.hd hc) h.2 (by simpa using rd) hp (all_fits c) fun h' tk hk => ⟨.bl _, H, I.kept hk, rfl, q⟩
  · exact PySem.W.any_tuple_data (I.ok.hd hc) h.2 (by simpa using rd) hp (all_fits c) fun h' tk hk => ⟨.bl _, H, I.kept hk, rfl, q⟩
theorem item_of {h h' : Heap} {its : List Value} {ys : List V} {ds : List D} {as bs : List Addr} {i : Nat} {v : Value} {d : D} (rv : Vals ys its) (rd : ReadsAll h its ds as) (hp : PyData.plainAll ds = true) (hi : its[i]? = some v) (k : ∀ b o, h.get? b = some o → h'.get? b = some o) (r : Reads h' v d bs) :
    ∃ y, ys[i]? = some y ∧ RelV y v ∧ ds[i]? = some d := by
  have hl : i < its.length := (List.getElem?_eq_some_iff.mp hi).1
  have hly : i < ys.length := by rw [rv.length]; exact hl
  obtain ⟨u, h1, h2⟩ := rv.get (List.getElem?_eq_getElem hly)
  rw [hi] at h1
  cases h1
  obtain ⟨cs, h3, h4, h5, _⟩ := PySem.W.readsAll_at rd i v hi
  refine ⟨ys[i], List.getElem?_eq_getElem hly, h2, ?_⟩
  have pl := PySem.W.plain_mem hp h5
  rw [← SeqAt.plain_unique _ d v cs bs pl (PySem.W.reads_keeps k h3) r, List.getD_eq_getElem?_getD, List.getElem?_eq_getElem h4]
  rfl
theorem call_min1X (hc : X.calm = true) (hu : X.A.units + 64 < cLine) : CallR X (.builtin "min") (rSeq X.K (fun ds => ds ≠ [] ∧ alikeOk ds = true) fun ds xs H Q => ∀ (x : D) (r : List D), ds = x :: r → ∀ (i : Nat) (v : V), (xs : List V)[i]? = some v → ds[i]? = some (PySem.W.minD x r) → Q v H) := by
  intro pins s σ H xs us Q I r h
  obtain ⟨a, ys, ds, rfl, hq, hd, hp, hdp, ⟨hne, hal⟩, q⟩ := h
  obtain ⟨u, rfl, ru⟩ := vals1 r
  cases ru
  cases ds with
  | nil => exact absurd rfl hne
  | cons x xs =>
    obtain ⟨its, as, rv, rd, _, h⟩ := seq_reads I hq hd
    have fin : ∀ (i : Nat) (v : Value) (h' : Heap) (tk : Nat) (bs : List Addr), its.toArray[i]? = some v → Reads h' v (PySem.W.minD x xs) bs → (∀ b o, s.heap.get? b = some o → h'.get? b = some o) → EP X pins σ Q v { s with heap := h', toks := tk } := fun i v h' tk bs hi hr hk => by
      obtain ⟨y, h1, h2, h3⟩ := item_of rv rd hp (by simpa using hi) hk hr
      exact ⟨y, H, I.kept hk, h2, q x xs rfl i y h1 h3⟩
    rcases h with h | h
    · exact PySem.W.min_list_data (I.ok.hd hc) h.2 (by simpa using rd) (alikeOk_p hal) (by omega) fin
    · exact PySem.W.min_tuple_data (I.ok.hd hc) h.2 (by simpa using rd) (alikeOk_p hal) (by omega) fin
theorem call_max1X (hc : X.calm = true) (hu : X.A.units + 64 < cLine) : CallR X (.builtin "max") (rSeq X.K (fun ds => ds ≠ [] ∧ alikeOk ds = true) fun ds xs H Q => ∀ (x : D) (r : List D), ds = x :: r → ∀ (i : Nat) (v : V), (xs : List V)[i]? = some v → ds[i]? = some (PySem.W.maxD x r) → Q v H) := by
  intro pins s σ H xs us Q I r h
  obtain ⟨a, ys, ds, rfl, hq, hd, hp, hdp, ⟨hne, hal⟩, q⟩ := h
  obtain ⟨u, rfl, ru⟩ := vals1 r
  cases ru
  cases ds with
  | nil => exact absurd rfl hne
  | cons x xs =>
    obtain ⟨its, as, rv, rd, _, h⟩ := seq_reads I hq hd
    have fin : ∀ (i : Nat) (v : Value) (h' : Heap) (tk : Nat) (bs : List Addr), its.toArray[i]? = some v → Reads h' v (PySem.W.maxD x xs) bs → (∀ b o, s.heap.get? b = some o → h'.get? b = some o) → EP X pins σ Q v { s with heap := h', toks := tk } := fun i v h' tk bs hi hr hk => by
      obtain ⟨y, h1, h2, h3⟩ := item_of rv rd hp (by simpa using hi) hk hr
      exact ⟨y, H, I.kept hk, h2, q x xs rfl i y h1 h3⟩
    rcases h with h | h
    · exact PySem.W.max_list_data (I.ok.hd hc) h.2 (by simpa using rd) (alikeOk_p hal) (by omega) fin
    · exact PySem.W.max_tuple_data (I.ok.hd hc) h.2 (by simpa using rd) (alikeOk_p hal) (by omega) fin
end
def Res.st {α : Type} (r : Res α) (ρ : Env) (k : α → Store → SRes) : SRes := match r with
  | .ok a S => k a S
  | .ex e S => .ex e ρ S
  | .bad => .bad
@[simp] theorem st_ok {α : Type} (a : α) (S : Store) (ρ : Env) (k : α → Store → SRes) : (Res.ok a S).st ρ k = k a S := rfl
@[simp] theorem st_ex {α : Type} (e : Xn) (S : Store) (ρ : Env) (k : α → Store → SRes) : (Res.ex e S : Res α).st ρ k = .ex e ρ S := rfl
@[simp] theorem st_bad {α : Type} (ρ : Env) (k : α → Store → SRes) : (Res.bad : Res α).st ρ k = .bad := rfl
def SRes.seq (r : SRes) (k : Sv) : SRes := match r with
  | .nx ρ S => k ρ S
  | r => r
@[simp] theorem seq_nx (ρ : Env) (S : Store) (k : Sv) : (SRes.nx ρ S).seq k = k ρ S := rfl
@[simp] theorem seq_ret (v : Vl) (S : Store) (k : Sv) : (SRes.ret v S).seq k = .ret v S := rfl
@[simp] theorem seq_bk (ρ : Env) (S : Store) (k : Sv) : (SRes.bk ρ S).seq k = .bk ρ S := rfl
@[simp] theorem seq_ct (ρ : Env) (S : Store) (k : Sv) : (SRes.ct ρ S).seq k = .ct ρ S := rfl
@[simp] theorem seq_ex (e : Xn) (ρ : Env) (S : Store) (k : Sv) : (SRes.ex e ρ S).seq k = .ex e ρ S := rfl
@[simp] theorem seq_bad (k : Sv) : SRes.bad.seq k = .bad := rfl
abbrev Tg := Vl → Env → Option Env
def gN (i : Nat) : Tg := fun v ρ => some (ρ.set i (some v))
def gAll : List Tg → List Vl → Env → Option Env
  | [], [], ρ => some ρ
  | g :: gs, v :: vs, ρ => match g v ρ with
    | some ρ1 => gAll gs vs ρ1
    | none => none
  | _, _, _ => none
def gT (gs : List Tg) : Tg := fun v ρ => match v with
  | .d (.tuple ds) => gAll gs (ds.map Vl.d) ρ
  | _ => none
def sNil : Sv := fun ρ S => .nx ρ S
def sCons (a b : Sv) : Sv := fun ρ S => (a ρ S).seq b
def sExpr (f : Ev) : Sv := fun ρ S => (f ρ S).st ρ fun _ S1 => .nx ρ S1
def sAsg (g : Tg) (f : Ev) : Sv := fun ρ S => (f ρ S).st ρ fun v S1 => match g v ρ with
  | some ρ1 => .nx ρ1 S1
  | none => .bad
def sSet (i : Nat) (f : Ev) : Sv := fun ρ S => (f ρ S).st ρ fun v S1 => .nx (ρ.set i (some v)) S1
def sPar (gs : List Tg) (f : Av) : Sv := fun ρ S => (f ρ S).st ρ fun vs S1 => match gAll gs vs ρ with
  | some ρ1 => .nx ρ1 S1
  | none => .bad
def sRet (f : Ev) : Sv := fun ρ S => (f ρ S).st ρ fun v S1 => .ret v S1
def sRetN : Sv := fun _ S => .ret (.d .none) S
def sIf (c : Tv) (a b : Sv) : Sv := fun ρ S => (c ρ S).st ρ fun x S1 => if x = true then a ρ S1 else b ρ S1
def sAug (i : Nat) (o : Vl → Vl → Store → Res Vl) (f : Ev) : Sv := fun ρ S => match ρ[i]? with
  | some (some x) => (f ρ S).st ρ fun y S1 => (o x y S1).st ρ fun z S2 => .nx (ρ.set i (some z)) S2
  | _ => .bad
def sPut (fo fi fe : Ev) : Sv := fun ρ S => (fe ρ S).st ρ fun v S1 => (fr v S1).st ρ fun d S2 => (fo ρ S2).st ρ fun o S3 => (fi ρ S3).st ρ fun i S4 => match o, view S4 i with
  | .loc n, some (.int k) => match S4[n]? with
    | some (.lst xs) => match ixN xs.length k with
      | some j => .nx ρ (S4.set n (.lst (xs.set j d)))
      | none => .bad
    | _ => .bad
  | _, _ => .bad
def sBreak : Sv := fun ρ S => .bk ρ S
def sCont : Sv := fun ρ S => .ct ρ S
abbrev Iv := Env → Store → Res (List D)
def forL (g : Tg) (b : Sv) : List D → Env → Store → SRes
  | [], ρ, S => .nx ρ S
  | x :: xs, ρ, S => match g (.d x) ρ with
    | none => .bad
    | some ρ1 => match b ρ1 S with
      | .nx ρ2 S2 => forL g b xs ρ2 S2
      | .ct ρ2 S2 => forL g b xs ρ2 S2
      | .bk ρ2 S2 => .nx ρ2 S2
      | r => r
def sFor (it : Iv) (g : Tg) (b : Sv) : Sv := fun ρ S => (it ρ S).st ρ fun xs S1 => forL g b xs ρ S1
def whN (c : Tv) (b : Sv) : Nat → Env → Store → Option SRes
  | 0, _, _ => none
  | n + 1, ρ, S => match c ρ S with
    | .ok true S1 => match b ρ S1 with
      | .nx ρ2 S2 => whN c b n ρ2 S2
      | .ct ρ2 S2 => whN c b n ρ2 S2
      | .bk ρ2 S2 => some (.nx ρ2 S2)
      | r => some r
    | .ok false S1 => some (.nx ρ S1)
    | .ex e S1 => some (.ex e ρ S1)
    | .bad => some .bad
open Classical in
noncomputable def sWhile (c : Tv) (b : Sv) : Sv := fun ρ S => if h : ∃ n r, whN c b n ρ S = some r then Classical.choose (Classical.choose_spec h) else .bad
theorem whN_mono {c : Tv} {b : Sv} : ∀ {n m : Nat} {ρ : Env} {S : Store} {r : SRes}, whN c b n ρ S = some r → n ≤ m → whN c b m ρ S = some r
  | 0, _, _, _, _, h, _ => by simp [whN] at h
  | n + 1, 0, _, _, _, _, h => by omega
  | n + 1, m + 1, ρ, S, r, h, hm => by
    have hm : n ≤ m := by omega
    unfold whN at h ⊢
    cases e : c ρ S with
    | ok t S1 =>
      simp only [e] at h ⊢
      cases t with
      | false => exact h
      | true =>
        cases e2 : b ρ S1 with
        | nx ρ2 S2 => simp only [e2] at h ⊢; exact whN_mono h hm
        | ct ρ2 S2 => simp only [e2] at h ⊢; exact whN_mono h hm
        | bk ρ2 S2 => simp only [e2] at h ⊢; exact h
        | ret v S2 => simp only [e2] at h ⊢; exact h
        | ex v ρ2 S2 => simp only [e2] at h ⊢; exact h
        | bad => simp only [e2] at h ⊢; exact h
    | ex x S1 => simp only [e] at h ⊢; exact h
    | bad => simp only [e] at h ⊢; exact h
theorem sWhile_of {c : Tv} {b : Sv} {n : Nat} {ρ : Env} {S : Store} {r : SRes} (h : whN c b n ρ S = some r) : sWhile c b ρ S = r := by
  have ex : ∃ n r, whN c b n ρ S = some r := ⟨n, r, h⟩
  unfold sWhile
  rw [dif_pos ex]
  have q := Classical.choose_spec (Classical.choose_spec ex)
  have a := whN_mono q (Nat.le_max_left (Classical.choose ex) n)
  have b := whN_mono h (Nat.le_max_right (Classical.choose ex) n)
  rw [a] at b
  exact Option.some.inj b
theorem sWhile_ex {c : Tv} {b : Sv} {ρ : Env} {S : Store} (h : sWhile c b ρ S ≠ .bad) : ∃ n, whN c b n ρ S = some (sWhile c b ρ S) := by
  by_cases ex : ∃ n r, whN c b n ρ S = some r
  · obtain ⟨n, r, e⟩ := ex
    exact ⟨n, by rw [sWhile_of e]; exact e⟩
  · exact absurd (by unfold sWhile; rw [dif_neg ex]) h
theorem sWhile_eq (c : Tv) (b : Sv) (ρ : Env) (S : Store) : sWhile c b ρ S = match c ρ S with
    | .ok true S1 => match b ρ S1 with
      | .nx ρ2 S2 => sWhile c b ρ2 S2
      | .ct ρ2 S2 => sWhile c b ρ2 S2
      | .bk ρ2 S2 => .nx ρ2 S2
      | r => r
    | .ok false S1 => .nx ρ S1
    | .ex e S1 => .ex e ρ S1
    | .bad => .bad := by
  cases e : c ρ S with
  | ok t S1 =>
    cases t with
    | false => exact sWhile_of (n := 1) (by simp [whN, e])
    | true =>
      cases e2 : b ρ S1 with
      | nx ρ2 S2 =>
        simp only [e2]
        by_cases ex : ∃ n r, whN c b n ρ2 S2 = some r
        · obtain ⟨n, r, h⟩ := ex
          rw [sWhile_of h]
          exact sWhile_of (n := n + 1) (by simp only [whN, e, e2]; exact h)
        · have n1 : sWhile c b ρ2 S2 = .bad := by unfold sWhile; rw [dif_neg ex]
          rw [n1]
          have : ¬ ∃ n r, whN c b n ρ S = some r := fun ⟨n, r, h⟩ => by
            cases n with
            | zero => simp [whN] at h
            | succ n => simp only [whN, e, e2] at h; exact ex ⟨n, r, h⟩
          unfold sWhile
          rw [dif_neg this]
      | ct ρ2 S2 =>
        simp only [e2]
        by_cases ex : ∃ n r, whN c b n ρ2 S2 = some r
        · obtain ⟨n, r, h⟩ := ex
          rw [sWhile_of h]
          exact sWhile_of (n := n + 1) (by simp only [whN, e, e2]; exact h)
        · have n1 : sWhile c b ρ2 S2 = .bad := by unfold sWhile; rw [dif_neg ex]
          rw [n1]
          have : ¬ ∃ n r, whN c b n ρ S = some r := fun ⟨n, r, h⟩ => by
            cases n with
            | zero => simp [whN] at h
            | succ n => simp only [whN, e, e2] at h; exact ex ⟨n, r, h⟩
          unfold sWhile
          rw [dif_neg this]
      | bk ρ2 S2 => exact sWhile_of (n := 1) (by simp [whN, e, e2])
      | ret v S2 => exact sWhile_of (n := 1) (by simp [whN, e, e2])
      | ex v ρ2 S2 => exact sWhile_of (n := 1) (by simp [whN, e, e2])
      | bad => exact sWhile_of (n := 1) (by simp [whN, e, e2])
  | ex x S1 => exact sWhile_of (n := 1) (by simp [whN, e])
  | bad => exact sWhile_of (n := 1) (by simp [whN, e])
def leave (n : Nat) (v : Vl) (S : Store) : Res Vl := match v with
  | .loc i => if i < n then .ok (.loc i) (S.take n) else match S[i]? with
    | some o => .ok (.loc n) (S.take n ++ [o])
    | none => .bad
  | .lam _ => .bad
  | v => .ok v (S.take n)
def fnOf (slots : Nat) (b : Sv) : Fn := fun vs S => match b (vs.map some ++ List.replicate (slots - vs.length) none) S with
  | .ret v S1 => leave S.length v S1
  | .nx _ S1 => .ok (.d .none) (S1.take S.length)
  | .ex e _ S1 => .ex e (S1.take S.length)
  | _ => .bad
section
variable {K : PySem.W.Frag} {mg : Str → Option Value} {φ φ' φ1 φ2 : Nat → Addr} {F F' F1 F2 : Addr → Prop} {H H' H1 H2 : Hp} {n n' m : Nat} {S S' S1 : Store}
theorem PostS.st {α β : Type} {R : (Nat → Addr) → (Addr → Prop) → Hp → Nat → β → α → Prop} {W : WX} {E : Ends} {r : Res α} {ρ : Env} {σ : L2.St} {k : α → Store → SRes} {Q : β → Hp → Prop} (g : SG τ K φ F H S) (sl : Slots K mg φ F H S.length σ ρ) (p : PostS τ K mg W S.length φ F H E (r.st ρ k))
    (h : ∀ φ1 F1 H1 S1 v x, Now τ K S.length φ F H φ1 F1 H1 S1 → R φ1 F1 H1 S1.length x v → PostS τ K mg W S1.length φ1 F1 H1 E (k v S1) → Q x H1) : PostG τ K mg R (fun c od H' => W c od σ H') S.length φ F H Q r := by
  cases r with
  | ok v S' => exact fun φ' F' H' nw x rx => h _ _ _ _ _ _ nw rx (PostS.start g nw p)
  | ex x S' => exact fun φ' F' H' nw c od rx => p φ' F' H' nw c od rx σ (sl.now nw)
  | bad => exact p
theorem PostS.seq {W : WX} {E : Ends} {r : SRes} {k : Sv} (g : SG τ K φ F H S) (p : PostS τ K mg W S.length φ F H E (r.seq k)) : PostS τ K mg W S.length φ F H { E with nx := RS τ K mg W k E } r := by
  cases r with
  | nx ρ S' => exact fun φ' F' H' nw σ' sl => ⟨φ', F', ρ, S', nw.sg, sl, PostS.start g nw p⟩
  | ret v S' => exact p
  | bk ρ S' => exact p
  | ct ρ S' => exact p
  | ex e ρ S' => exact p
  | bad => exact p
theorem PostS.nx {W : WX} {E : Ends} {ρ : Env} {σ : L2.St} (g : SG τ K φ F H S) (sl : Slots K mg φ F H S.length σ ρ) (p : PostS τ K mg W S.length φ F H E (.nx ρ S)) : E.nx σ H := p φ F H (.refl g) σ sl
theorem PostS.ends {W : WX} {E E' : Ends} {r : SRes} (p : PostS τ K mg W n φ F H E r) (h1 : ∀ σ H, E.nx σ H → E'.nx σ H) (h2 : ∀ v H, E.rt v H → E'.rt v H) (h3 : ∀ σ H, E.bk σ H → E'.bk σ H) (h4 : ∀ σ H, E.ct σ H → E'.ct σ H) : PostS τ K mg W n φ F H E' r := by
  cases r with
  | nx ρ S' => exact fun φ' F' H' nw σ' sl => h1 _ _ (p φ' F' H' nw σ' sl)
  | ret v S' => exact fun φ' F' H' nw σ' sl => h2 _ _ (p φ' F' H' nw σ' sl)
  | bk ρ S' => exact fun φ' F' H' nw σ' sl => h3 _ _ (p φ' F' H' nw σ' sl)
  | ct ρ S' => exact fun φ' F' H' nw σ' sl => h4 _ _ (p φ' F' H' nw σ' sl)
  | ex e ρ S' => exact p
  | bad => exact p
end
def Kept (ws : List Nat) (σ σ1 : L2.St) : Prop := σ1.length = σ.length ∧ ∀ i, i ∉ ws → σ1[i]? = σ[i]?
def RG (τ : Tb) (K : PySem.W.Frag) (mg : Str → Option Value) (g : Tg) (ws : List Nat) : TG := fun v σ H Q => ∃ φ F ρ S x, SG τ K φ F H S ∧ Slots K mg φ F H S.length σ ρ ∧ RepV K mg φ F H S.length v x ∧ match g x ρ with
  | some ρ1 => ∀ σ1 : L2.St, Slots K mg φ F H S.length σ1 ρ1 → Kept ws σ σ1 → Q σ1 H
  | none => False
def RGs (τ : Tb) (K : PySem.W.Frag) (mg : Str → Option Value) (gs : List Tg) (ws : List Nat) : TGs := fun vs σ H Q => ∃ φ F ρ S xs, SG τ K φ F H S ∧ Slots K mg φ F H S.length σ ρ ∧ RepVs K mg φ F H S.length vs xs ∧ match gAll gs xs ρ with
  | some ρ1 => ∀ σ1 : L2.St, Slots K mg φ F H S.length σ1 ρ1 → Kept ws σ σ1 → Q σ1 H
  | none => False
structure DG (τ : Tb) (X : Cx) (tg : Expr) (g : Tg) (ws : List Nat) : Prop where
  r : PG X tg (RG τ X.K X.mg g ws)
structure DGs (τ : Tb) (X : Cx) (tgs : List Expr) (gs : List Tg) (ws : List Nat) : Prop where
  r : PGs X tgs (RGs τ X.K X.mg gs ws)
theorem PG.mono {X : Cx} {e : Expr} {t t' : TG} (h : PG X e t) (m : ∀ v σ H Q, t' v σ H Q → t v σ H Q) : PG X e t' := ⟨fun pins s σ H v u Q I r q => h.run pins s σ H v u Q I r (m _ _ _ _ q)⟩
theorem PGs.mono {X : Cx} {e : List Expr} {t t' : TGs} (h : PGs X e t) (m : ∀ v σ H Q, t' v σ H Q → t v σ H Q) : PGs X e t' := ⟨fun pins s σ H v u Q I r q => h.run pins s σ H v u Q I r (m _ _ _ _ q)⟩
section
variable {X : Cx} {W : WX} {k : Nat} {a b c e tg : Expr} {es rest tgs : List Expr} {fa fb fc f : Ev} {ga gb : Tv} {fs : Av} {pos pos' : Pos} {st : Stmt} {sts body els : List Stmt} {sf sg : Sv} {g : Tg} {gs : List Tg} {ws vs' : List Nat}
theorem dg_name (i : Nat) {x : Str} (hN : X.N.Nodup) (hi : X.N[i]? = some x) (hx : Loc X.env.scope x) (hf : X.fn x = true ∨ X.env.scope.names.lookup x = some .local := by first | exact .inl rfl | exact .inr rfl | assumption) : DG τ X (.Name x pos) (gN i) [i] :=
  ⟨PG.mono (pg_name hN hi hx hf) fun v σ H Q ⟨φ, F, ρ, S, y, g, sl, r, p⟩ => p _ (sl.set r) ⟨List.length_set, fun j hj => List.getElem?_set_ne fun e => hj (by simp [e])⟩⟩
theorem dgs_nil : DGs τ X [] [] [] := ⟨PGs.mono pgs_nil fun vs σ H Q ⟨φ, F, ρ, S, ys, g, sl, r, p⟩ => by
  cases ys with
  | cons y ys => exact p.elim
  | nil =>
    cases vs with
    | cons v vs => exact r.elim
    | nil => exact ⟨rfl, p _ sl ⟨rfl, fun _ _ => rfl⟩⟩⟩
theorem dgs_cons (h1 : DG τ X tg g ws) (h2 : DGs τ X tgs gs vs') (hs : (assignEach (tg :: tgs) X.env).map (·.2) = assign tg X.env :: (assignEach tgs X.env).map (·.2) := by rfl) : DGs τ X (tg :: tgs) (g :: gs) (ws ++ vs') := ⟨PGs.mono (pgs_cons h1.r h2.r hs) fun vs σ H Q ⟨φ, F, ρ, S, ys, sg, sl, r, p⟩ => by
  cases ys with
  | nil => exact p.elim
  | cons y ys =>
    cases vs with
    | nil => exact r.elim
    | cons v vs =>
      refine ⟨v, vs, rfl, φ, F, ρ, S, y, sg, sl, r.1, ?_⟩
      unfold gAll at p
      cases q : g y ρ with
      | none => rw [q] at p; exact p.elim
      | some ρ1 =>
        simp only [q] at p
        refine fun σ1 sl1 n1 => ⟨φ, F, ρ1, S, ys, sg, sl1, r.2, ?_⟩
        cases q2 : gAll gs ys ρ1 with
        | none => rw [q2] at p; exact p.elim
        | some ρ2 =>
          simp only [q2] at p ⊢
          exact fun σ2 sl2 n2 => p σ2 sl2 ⟨n2.1.trans n1.1, fun i hi => (n2.2 i fun h => hi (List.mem_append_right _ h)).trans (n1.2 i fun h => hi (List.mem_append_left _ h))⟩⟩
theorem reps_d {K : PySem.W.Frag} {mg : Str → Option Value} {φ : Nat → Addr} {F : Addr → Prop} {H : Hp} {n : Nat} : ∀ {xs : List V} {ds : List D}, FzAll K F H xs ds → RepVs K mg φ F H n xs (ds.map Vl.d)
  | _, _, .nil => trivial
  | _, _, .cons h t => ⟨h, reps_d t⟩
theorem dg_tup {kk : Nat} {n : Nat} (hc : X.calm = true) (h : DGs τ X tgs gs ws) (hn : (assignEach tgs X.env).length = n := by rfl) (hst : (assignEach tgs X.env).findIdx? (·.1) = none := by rfl) (hl : gs.length = n := by rfl) : DG τ X (.Tuple tgs kk pos) (gT gs) ws := ⟨PG.mono (pg_tup hc h.r hn hst) fun v σ H Q ⟨φ, F, ρ, S, y, sg, sl, r, p⟩ => by
  cases y with
  | d y =>
    cases y with
    | tuple ds =>
      · obtain ⟨a, xs, rfl, h1, h2⟩ := Fz.ob r
        refine ⟨a, xs, rfl, h1.sq, ?_, φ, F, ρ, S, _, sg, sl, reps_d h2, p⟩
        have q : ∀ (gs : List Tg) (vs : List Vl) (ρ : Env), (∃ ρ1, gAll gs vs ρ = some ρ1) → vs.length = gs.length := fun gs => by
          induction gs with
          | nil => intro vs ρ h; cases vs with
            | nil => rfl
            | cons v vs => obtain ⟨_, e⟩ := h; cases e
          | cons g gs ih => intro vs ρ h; cases vs with
            | nil => obtain ⟨_, e⟩ := h; cases e
            | cons v vs =>
              obtain ⟨ρ1, e⟩ := h
              unfold gAll at e
              cases q : g v ρ with
              | none => rw [q] at e; cases e
              | some ρ2 => simp only [q] at e; rw [List.length_cons, List.length_cons, ih vs ρ2 ⟨ρ1, e⟩]
        cases q2 : gAll gs (ds.map Vl.d) ρ with
        | none => simp only [gT, q2] at p
        | some ρ1 =>
          have := q gs _ ρ ⟨ρ1, q2⟩
          rw [List.length_map] at this
          rw [h2.len, this, hl]
    | _ => exact p.elim
  | _ => exact p.elim⟩
theorem db_nil : DB τ X W [] sNil := ⟨PSs.mono pss_nil fun E σ H ⟨φ, F, ρ, S, g, sl, p⟩ => PostS.nx g sl p⟩
theorem db_cons (h1 : DS τ X W st sf) (h2 : DB τ X W sts sg) : DB τ X W (st :: sts) (sCons sf sg) := ⟨PSs.mono (pss_cons h1.r h2.r) fun E σ H ⟨φ, F, ρ, S, g, sl, p⟩ => ⟨φ, F, ρ, S, g, sl, PostS.seq g p⟩⟩
theorem db_one (h1 : DS τ X W st sf) : DB τ X W [st] sf := ⟨PSs.mono (pss_one h1.r) fun _ _ _ q => q⟩
theorem ds_pass : DS τ X W (.Pass pos) sNil := ⟨PS.mono ps_pass fun E σ H ⟨φ, F, ρ, S, g, sl, p⟩ => PostS.nx g sl p⟩
theorem ds_break : DS τ X W (.Break pos) sBreak := ⟨PS.mono ps_break fun E σ H ⟨φ, F, ρ, S, g, sl, p⟩ => p φ F H (.refl g) σ sl⟩
theorem ds_cont : DS τ X W (.Continue pos) sCont := ⟨PS.mono ps_continue fun E σ H ⟨φ, F, ρ, S, g, sl, p⟩ => p φ F H (.refl g) σ sl⟩
theorem ds_expr (h : DE τ X W e f) (hs : swapsWith e none pos.line X.env = pure false := by rfl) : DS τ X W (.Expr e pos) (sExpr f) := ⟨PS.mono (ps_expr h.r hs) fun E σ H ⟨φ, F, ρ, S, g, sl, p⟩ => ⟨φ, F, ρ, S, g, sl, PostS.st g sl p fun φ1 F1 H1 S1 v x nw1 r1 p1 => PostS.nx nw1.sg (sl.now nw1) p1⟩⟩
theorem ds_ret (h : DE τ X W e f) : DS τ X W (.Return (some e) pos) (sRet f) := ⟨PS.mono (ps_ret h.r) fun E σ H ⟨φ, F, ρ, S, g, sl, p⟩ => ⟨φ, F, ρ, S, g, sl, PostS.st g sl p fun φ1 F1 H1 S1 v x nw1 r1 p1 => p1 _ _ _ (.refl nw1.sg) x r1⟩⟩
theorem ds_retN : DS τ X W (.Return none pos) sRetN := ⟨PS.mono ps_retN fun E σ H ⟨φ, F, ρ, S, g, sl, p⟩ => p _ _ _ (.refl g) .non .non⟩
theorem ds_set (i : Nat) {x : Str} (hN : X.N.Nodup) (hi : X.N[i]? = some x) (hx : Loc X.env.scope x) (h : DE τ X W e f) (hs : swapsWith e (some (.Name x pos')) pos.line X.env = pure false := by rfl) (hf : X.fn x = true ∨ X.env.scope.names.lookup x = some .local := by first | exact .inl rfl | exact .inr rfl | assumption) : DS τ X W (.Assign [.Name x pos'] e pos) (sSet i f) :=
  ⟨PS.mono (ps_set hN hi hx h.r hs hf) fun E σ H ⟨φ, F, ρ, S, g, sl, p⟩ => ⟨φ, F, ρ, S, g, sl, PostS.st g sl p fun φ1 F1 H1 S1 v x nw1 r1 p1 => PostS.nx nw1.sg ((sl.now nw1).set r1) p1⟩⟩
theorem ds_asg (h : DE τ X W e f) (hg : DG τ X tg g ws) (hs : swapsWithSole [tg] e pos.line X.env = pure false := by rfl) (hw : swappedStores [tg] e X.env = pure none := by rfl) (h1 : (assignEach [tg] X.env).map (·.2) = [assign tg X.env] := by rfl) : DS τ X W (.Assign [tg] e pos) (sAsg g f) :=
  ⟨PS.mono (ps_asg h.r hg.r hs hw h1) fun E σ H ⟨φ, F, ρ, S, gg, sl, p⟩ => ⟨φ, F, ρ, S, gg, sl, PostS.st gg sl p fun φ1 F1 H1 S1 v x nw1 r1 p1 => ⟨φ1, F1, ρ, S1, v, nw1.sg, sl.now nw1, r1, by
    cases q : g v ρ with
    | none => rw [q] at p1; exact p1.elim
    | some ρ1 =>
      simp only [q] at p1 ⊢
      exact fun σ1 sl1 _ => PostS.nx nw1.sg sl1 p1⟩⟩⟩
theorem ds_parT {n kk k2 : Nat} {pos2 : Pos} (hc : X.calm = true) (h : DA τ X W es fs) (hg : DGs τ X tgs gs ws) (hn : (assignEach tgs X.env).length = n := by rfl) (hst : (assignEach tgs X.env).findIdx? (·.1) = none := by rfl) (hl : gs.length = n := by rfl) (hln : n ≤ 1000 := by decide)
    (hs : swapsWithSole [.Tuple tgs kk pos'] (.Tuple es k2 pos2) pos.line X.env = pure false := by rfl) (hw : swappedStores [.Tuple tgs kk pos'] (.Tuple es k2 pos2) X.env = pure none := by rfl) (h1 : (assignEach [.Tuple tgs kk pos'] X.env).map (·.2) = [assign (.Tuple tgs kk pos') X.env] := by rfl) :
    DS τ X W (.Assign [.Tuple tgs kk pos'] (.Tuple es k2 pos2) pos) (sPar gs fs) := ⟨PS.mono (ps_asg (pe_tup h.r) (pg_tup hc hg.r hn hst) hs hw h1) fun E σ H ⟨φ, F, ρ, S, g, sl, p⟩ => ⟨φ, F, ρ, S, g, sl, PostS.st g sl p fun φ1 F1 H1 S1 vs xs nw1 r1 p1 => by
  have q : ∀ (gs : List Tg) (vs : List Vl) (ρ : Env), (∃ ρ1, gAll gs vs ρ = some ρ1) → vs.length = gs.length := fun gs => by
    induction gs with
    | nil => intro vs ρ h; cases vs with
      | nil => rfl
      | cons v vs => obtain ⟨_, e⟩ := h; cases e
    | cons g gs ih => intro vs ρ h; cases vs with
      | nil => obtain ⟨_, e⟩ := h; cases e
      | cons v vs =>
        obtain ⟨ρ1, e⟩ := h
        unfold gAll at e
        cases q : g v ρ with
        | none => rw [q] at e; cases e
        | some ρ2 => simp only [q] at e; rw [List.length_cons, List.length_cons, ih vs ρ2 ⟨ρ1, e⟩]
  cases q2 : gAll gs vs ρ with
  | none => rw [q2] at p1; exact p1.elim
  | some ρ1 =>
    simp only [q2] at p1
    have lv := q gs vs ρ ⟨ρ1, q2⟩
    have lx : xs.length = n := by rw [r1.len, lv, hl]
    refine ⟨by rw [lx]; exact line1000 hln, fun t ht => ?_⟩
    have nw2 := nw1.sg.fresh (o := .tup xs) ht
    refine ⟨t, xs, rfl, .inl (.inl upd_same), lx, φ1, _, ρ, S1, vs, nw2.sg, (sl.now nw1).now nw2, RepVs.ext nw2.ext nw2.le r1, ?_⟩
    simp only [q2]
    exact fun σ1 sl1 _ => PostS.nx nw2.sg sl1 (PostS.start nw1.sg nw2 p1)⟩⟩
theorem ds_par2 (i j : Nat) {x y : Str} {px py pt pos2 : Pos} {kt k2 : Nat} (hc : X.calm = true) (hN : X.N.Nodup) (hi : X.N[i]? = some x) (hj : X.N[j]? = some y) (hij : i ≠ j) (hx : X.env.scope.names.lookup x = some .local) (hy : X.env.scope.names.lookup y = some .local) (ha : DA τ X W [a, b] fs)
    (hw : swappedStores [.Tuple [.Name x px, .Name y py] kt pt] (.Tuple [a, b] k2 pos2) X.env = pure (some [x, y]) := by rfl) (hs : swapsWithSole [.Tuple [.Name x px, .Name y py] kt pt] (.Tuple [a, b] k2 pos2) pos.line X.env = pure false := by rfl) :
    DS τ X W (.Assign [.Tuple [.Name x px, .Name y py] kt pt] (.Tuple [a, b] k2 pos2) pos) (sPar [gN i, gN j] fs) := ⟨PS.mono (ps_par hc hN hi hj hij hx hy ha.r hw hs) fun E σ H ⟨φ, F, ρ, S, g, sl, p⟩ => ⟨φ, F, ρ, S, g, sl, PostS.st g sl p fun φ1 F1 H1 S1 vs xs nw1 r1 p1 => by
  cases vs with
  | nil => exact p1.elim
  | cons v vs =>
    cases vs with
    | nil => exact p1.elim
    | cons u vs =>
      cases vs with
      | cons _ _ => exact p1.elim
      | nil =>
        obtain ⟨x1, x2, rfl, q1, q2⟩ := reps2 r1
        exact ⟨x1, x2, rfl, PostS.nx nw1.sg (((sl.now nw1).set q1).set q2) p1⟩⟩⟩
theorem ds_par3 (i j l : Nat) {x y z : Str} {px py pz pt pos2 : Pos} {kt k2 : Nat} (hc : X.calm = true) (hN : X.N.Nodup) (hi : X.N[i]? = some x) (hj : X.N[j]? = some y) (hl : X.N[l]? = some z) (hij : i ≠ j) (hil : i ≠ l) (hjl : j ≠ l) (hx : X.env.scope.names.lookup x = some .local) (hy : X.env.scope.names.lookup y = some .local)
    (hz : X.env.scope.names.lookup z = some .local) (ha : DA τ X W [a, b, c] fs) (hw : swappedStores [.Tuple [.Name x px, .Name y py, .Name z pz] kt pt] (.Tuple [a, b, c] k2 pos2) X.env = pure (some [x, y, z]) := by rfl)
    (hs : swapsWithSole [.Tuple [.Name x px, .Name y py, .Name z pz] kt pt] (.Tuple [a, b, c] k2 pos2) pos.line X.env = pure false := by rfl) :
    DS τ X W (.Assign [.Tuple [.Name x px, .Name y py, .Name z pz] kt pt] (.Tuple [a, b, c] k2 pos2) pos) (sPar [gN i, gN j, gN l] fs) := ⟨PS.mono (ps_par3 hc hN hi hj hl hij hil hjl hx hy hz ha.r hw hs) fun E σ H ⟨φ, F, ρ, S, g, sl, p⟩ => ⟨φ, F, ρ, S, g, sl, PostS.st g sl p fun φ1 F1 H1 S1 vs xs nw1 r1 p1 => by
  cases vs with
  | nil => exact p1.elim
  | cons v vs =>
    cases vs with
    | nil => exact p1.elim
    | cons u vs =>
      cases vs with
      | nil => exact p1.elim
      | cons t vs =>
        cases vs with
        | cons _ _ => exact p1.elim
        | nil =>
          cases xs with
          | nil => exact r1.elim
          | cons x0 xs =>
            obtain ⟨x1, x2, rfl, q1, q2⟩ := reps2 r1.2
            exact ⟨x0, x1, x2, rfl, PostS.nx nw1.sg ((((sl.now nw1).set r1.1).set q1).set q2) p1⟩⟩⟩
theorem ds_if (hc : DT τ X W c ga) (ha : DB τ X W body sf) (hb : DB τ X W els sg) : DS τ X W (.If c body els pos) (sIf ga sf sg) := ⟨PS.mono (ps_if hc.r ha.r hb.r) fun E σ H ⟨φ, F, ρ, S, g, sl, p⟩ => ⟨φ, F, ρ, S, g, sl, PostS.st (R := RepB) g sl p fun φ1 F1 H1 S1 v x nw1 r1 p1 => by
  have r1 : x = v := r1
  subst r1
  cases x with
  | true => exact ⟨φ1, F1, ρ, S1, nw1.sg, sl.now nw1, p1⟩
  | false => exact ⟨φ1, F1, ρ, S1, nw1.sg, sl.now nw1, p1⟩⟩⟩
theorem ds_aug (i : Nat) {x : Str} {op : Operator} {o : Vl → Vl → Store → Res Vl} {r : R2} (hN : X.N.Nodup) (hi : X.N[i]? = some x) (hx : Loc X.env.scope x) (h : DE τ X W e f) (ho : OpR X (inplaceOp op) r) (ok : OpOk τ X.K X.mg r o) (hf : X.fn x = true ∨ X.env.scope.names.lookup x = some .local := by first | exact .inl rfl | exact .inr rfl | assumption) :
    DS τ X W (.AugAssign (.Name x pos') op e pos) (sAug i o f) := ⟨PS.mono (ps_aug (ti := r) hN hi hx h.r (fun pins s σ H x y v u Q I rx ry q => ho pins s σ H x y v u Q I rx ry q) hf) fun E σ H ⟨φ, F, ρ, S, g, sl, p⟩ => by
  unfold sAug at p
  split at p
  · rename_i v q
    obtain ⟨x, h1, h2⟩ := sl.2 i v q
    refine ⟨x, h1, φ, F, ρ, S, g, sl, PostS.st g sl p fun φ1 F1 H1 S1 u y nw1 r1 p1 => ok nw1.sg (h2.now nw1) r1 (PostS.st (R := RepV X.K X.mg) nw1.sg (sl.now nw1) p1 fun φ2 F2 H2 S2 w z nw2 r2 p2 => PostS.nx nw2.sg (((sl.now nw1).now nw2).set r2) p2)⟩
  · exact p.elim⟩
theorem ds_put {o i : Expr} {fo fi fe : Ev} {p2 : Pos} (ho : DE τ X W o fo) (hi : DE τ X W i fi) (he : DE τ X W e fe) (hs : swapsWithSole [.Subscript o i p2] e pos.line X.env = pure false := by rfl) (hw : swappedStores [.Subscript o i p2] e X.env = pure none := by rfl)
    (h1 : (assignEach [.Subscript o i p2] X.env).map (·.2) = [assign (.Subscript o i p2) X.env] := by rfl) (ha : ∀ v, assign (.Subscript o i p2) X.env v = (do
      let ov ← holding [v] (eval o X.env)
      let iv ← holding [v, ov] (eval i X.env)
      standAt p2
      holding [v, ov, iv] (setItem ov iv v)
      release [v, ov, iv] []) := by intro _; rfl) : DS τ X W (.Assign [.Subscript o i p2] e pos) (sPut fo fi fe) :=
  ⟨PS.mono (ps_asg he.r (pg_sub ho.r hi.r set_list ha) hs hw h1) fun E σ H ⟨φ, F, ρ, S, g, sl, p⟩ => ⟨φ, F, ρ, S, g, sl, PostS.st g sl p fun φ1 F1 H1 S1 v x nw1 r1 p1 => by
    have hne : fr v S1 ≠ .bad := fun e => by rw [e] at p1; exact p1
    obtain ⟨φ2, F2, S2, d, nw2, f2, e2⟩ := fr_ok nw1.sg r1 hne
    rw [e2] at p1
    have p2 := PostS.start nw1.sg nw2 p1
    have sl2 := (sl.now nw1).now nw2
    refine ⟨φ2, F2, ρ, S2, nw2.sg, sl2, PostS.st nw2.sg sl2 p2 fun φ3 F3 H3 S3 ov ox nw3 r3 p3 => ⟨φ3, F3, ρ, S3, nw3.sg, sl2.now nw3, PostS.st nw3.sg (sl2.now nw3) p3 fun φ4 F4 H4 S4 iv ix nw4 r4 p4 => ?_⟩⟩
    split at p4
    · rename_i nn k q
      have r3' := RepV.now nw4 r3
      obtain ⟨hn, rfl⟩ := r3'
      split at p4
      · rename_i xs q2
        split at p4
        · rename_i j q3
          obtain ⟨h1, ys, h2, h3⟩ := nw4.sg.obj nn _ q2
          have f4 : Fz X.K F4 H4 x d := (f2.ext nw3.ext.sub nw3.ext.same).ext nw4.ext.sub nw4.ext.same
          refine ⟨φ4 nn, ys, k, j, rfl, ob_of nw4.sg r4 q, h2, by rw [h3.len]; exact q3, ?_⟩
          have nw5 := nw4.sg.write (o := .lst (ys.set j x)) (mo := .lst (xs.set j d)) q2 rfl fun nf same => ⟨nf, _, upd_same, (h3.set f4 j).ext (fun _ h => h) same⟩
          have sl5 := ((sl2.now nw3).now nw4).now nw5
          exact PostS.nx nw5.sg sl5 (PostS.start nw4.sg nw5 p4)
        · exact p4.elim
      · exact p4.elim
    · exact p4.elim⟩⟩
end
def YI (K : PySem.W.Frag) (F : Addr → Prop) (H H' : Hp) (v : V) (H'' : Hp) (d : D) : Prop :=
  (H'' = H' ∧ Fz K F H v d) ∨ ∃ T vs es, v = .ref T ∧ H' T = none ∧ H'' = upd H' T (.tup vs) ∧ d = .tuple es ∧ FzAll K F H vs es
abbrev Agree (F : Addr → Prop) (H H' : Hp) : Prop := ∀ a, F a → H' a = H a
structure Yl (K : PySem.W.Frag) (F : Addr → Prop) (H : Hp) (J : It) (ds : List D) : Prop where
  goes : ∀ i H', i < ds.length → Agree F H H' → J.go i H'
  stops : ∀ H', Agree F H H' → J.stop ds.length H'
  yields : ∀ i H' v H'', i < ds.length → Agree F H H' → J.yld i H' v H'' → ∃ d, ds[i]? = some d ∧ YI K F H H' v H'' d
theorem Yl.walk {K : PySem.W.Frag} {F : Addr → Prop} {H : Hp} {J : It} {ds : List D} (y : Yl K F H J ds) : Walk J ds.length (Agree F H) (fun i H' v H'' => ∃ d, ds[i]? = some d ∧ YI K F H H' v H'' d) :=
  ⟨fun i H' h g => y.goes i H' h g, fun H' g => y.stops H' g, fun i H' v H'' h g q => y.yields i H' v H'' h g q⟩
abbrev RepY (K : PySem.W.Frag) : (Nat → Addr) → (Addr → Prop) → Hp → Nat → It → List D → Prop := fun _ F H _ J ds => Yl K F H J ds
def RI (τ : Tb) (K : PySem.W.Frag) (mg : Str → Option Value) (W : WX) (f : Iv) : TI := fun σ H R => ∃ φ F ρ S, SG τ K φ F H S ∧ Slots K mg φ F H S.length σ ρ ∧ PostG τ K mg (RepY K) (fun c od H' => W c od σ H') S.length φ F H R (f ρ S)
structure DI (τ : Tb) (X : Cx) (W : WX) (tg it : Expr) (f : Iv) : Prop where
  r : PI X tg it (RI τ X.K X.mg W f)
theorem PI.mono {X : Cx} {tg e : Expr} {t t' : TI} (h : PI X tg e t) (m : ∀ σ H Q, t' σ H Q → t σ H Q) : PI X tg e t' := ⟨fun pins s σ H Q I q => h.run pins s σ H Q I (m _ _ _ q)⟩
def iSeq (f : Ev) : Iv := fun ρ S => (f ρ S).bind fun v S1 => (fr v S1).bind fun d S2 => match seqOf d with
  | some ds => .ok ds S2
  | none => .bad
def rangeD (lo hi : Int) : List D := (List.range (hi - lo).toNat).map fun i => .int (lo + (i : Nat))
def iRange (f : Av) : Iv := fun ρ S => (f ρ S).bind fun vs S1 => match vs with
  | [v] => match view S1 v with
    | some (.int j) => if -(2 ^ 62) ≤ j ∧ j < 2 ^ 62 then .ok (rangeD 0 j) S1 else .bad
    | _ => .bad
  | [v, u] => match view S1 v, view S1 u with
    | some (.int i), some (.int j) => if -(2 ^ 62) ≤ i ∧ i < 2 ^ 62 ∧ -(2 ^ 62) ≤ j ∧ j < 2 ^ 62 then .ok (rangeD i j) S1 else .bad
    | _, _ => .bad
  | _ => .bad
section
variable {X : Cx} {W : WX} {tg l : Expr}
def jSeq (K : PySem.W.Frag) (tl : TE) : TI := fun σ H R => tl σ H fun x H1 => ∃ a, x = .ref a ∧ (((∃ xs, SqL K H1 a xs) ∧ R (Itl K a) H1) ∨ ((∃ xs, SqT K H1 a xs) ∧ R (Itt K a) H1))
theorem pi_seq {tl : TE} (h : PE X l tl) : PI X tg l (jSeq X.K tl) := ⟨fun pins s σ H R I q => thn (h.run pins s σ H _ I q) fun v s1 ⟨x, H1, I1, r1, a, e, q1⟩ => by
  subst e
  cases r1
  have fresh : ∀ b ∈ [s1.heap.objs.size], FpOk X pins H1 b := fun b hb => by
    obtain rfl : b = s1.heap.objs.size := by simpa using hb
    exact I1.fpOk (Nat.le_refl _) (I1.hok.fresh (Nat.le_refl _))
  rcases q1 with ⟨⟨xs, hq⟩, q1⟩ | ⟨⟨xs, hq⟩, q1⟩
  · obtain ⟨its, _, p, _⟩ := I1.list hq
    exact wpAny_pyIter_list p.isList ⟨_, _, _, _, H1, rfl, I1.kept (t' := s1.toks) fun b o e => Heap.get?_push_of_some _ e, turn_list a _, ⟨_, Heap.get?_push_size _ rfl, rfl, rfl⟩, fresh, q1⟩
  · obtain ⟨its, _, p, _⟩ := I1.tuple hq
    exact wpAny_pyIter_tuple (show s1.heap.IsTuple a its.toArray from p) ⟨_, _, _, _, H1, rfl, I1.kept (t' := s1.toks) fun b o e => Heap.get?_push_of_some _ e, turn_tuple a _, ⟨_, Heap.get?_push_size _ rfl, rfl, rfl⟩, fresh, q1⟩⟩
variable {K : PySem.W.Frag} {F : Addr → Prop} {H : Hp} {a b : Addr} {xs ys : List V} {ds es : List D}
theorem yl_list (hf : F a) (h1 : H a = some (.lst xs)) (h2 : FzAll K F H xs ds) : Yl K F H (Itl K a) ds := by
  have at_ : ∀ H', Agree F H H' → SqL K H' a xs := fun H' g => .inl (.inl ((g a hf).trans h1))
  refine ⟨fun i H' hi g => ?_, fun H' g => ⟨xs, at_ H' g, by rw [h2.len]; exact Nat.le_refl _⟩, fun i H' v H'' hi g y => ?_⟩
  · obtain ⟨v, hv, _⟩ := h2.get (List.getElem?_eq_getElem hi)
    exact ⟨xs, v, at_ H' g, hv⟩
  · obtain ⟨v', hv, fv⟩ := h2.get (List.getElem?_eq_getElem hi)
    have e := y.2 xs (at_ H' g)
    rw [hv] at e
    cases e
    exact ⟨ds[i], List.getElem?_eq_getElem hi, .inl ⟨y.1, fv⟩⟩
theorem yl_tup (h1 : FqT K F H a xs) (h2 : FzAll K F H xs ds) : Yl K F H (Itt K a) ds := by
  have at_ : ∀ H', Agree F H H' → SqT K H' a xs := fun H' g => (h1.ext (fun _ h => h) g).sq
  refine ⟨fun i H' hi g => ?_, fun H' g => ⟨xs, at_ H' g, by rw [h2.len]; exact Nat.le_refl _⟩, fun i H' v H'' hi g y => ?_⟩
  · obtain ⟨v, hv, _⟩ := h2.get (List.getElem?_eq_getElem hi)
    exact ⟨xs, v, at_ H' g, hv⟩
  · obtain ⟨v', hv, fv⟩ := h2.get (List.getElem?_eq_getElem hi)
    have e := y.2 xs (at_ H' g)
    rw [hv] at e
    cases e
    exact ⟨ds[i], List.getElem?_eq_getElem hi, .inl ⟨y.1, fv⟩⟩
theorem rangeD_len {lo hi : Int} : (rangeD lo hi).length = (hi - lo).toNat := by simp [rangeD]
theorem yl_range {lo hi : Int} : Yl K F H (Itr lo (hi - lo).toNat) (rangeD lo hi) := by
  refine ⟨fun i H' hi _ => by rw [rangeD_len] at hi; exact hi, fun H' _ => by rw [rangeD_len]; exact Nat.le_refl _, fun i H' v H'' hi _ y => ?_⟩
  rw [rangeD_len] at hi
  exact ⟨.int (lo + (i : Nat)), by simp [rangeD, hi], .inl ⟨y.1, by rw [y.2]; exact .int _⟩⟩
theorem di_seq {f : Ev} (h : DE τ X W l f) : DI τ X W tg l (iSeq f) := ⟨PI.mono (pi_seq h.r) fun σ H Q ⟨φ, F, ρ, S, g, sl, p⟩ => ⟨φ, F, ρ, S, g, sl, PostG.bind g p fun φ1 F1 H1 S1 v x nw1 r1 p1 => by
  have hne : fr v S1 ≠ .bad := fun e => by rw [e] at p1; exact p1
  obtain ⟨φ2, F2, S2, d, nw2, f2, e2⟩ := fr_ok nw1.sg r1 hne
  rw [e2] at p1
  have p2 := PostG.start nw1.sg nw2 p1
  cases d <;> first | exact p2.elim | skip
  · cases f2 with
    | lst h1 h2 h3 => exact ⟨_, rfl, .inl ⟨⟨_, .inl (.inl h2)⟩, p2 _ _ _ (.refl nw2.sg) _ (yl_list h1 h2 h3)⟩⟩
  · cases f2 with
    | tup h1 h2 => exact ⟨_, rfl, .inr ⟨⟨_, h1.sq⟩, p2 _ _ _ (.refl nw2.sg) _ (yl_tup h1 h2)⟩⟩⟩⟩
theorem range_1 {f : Av} {σ : L2.St} {H : Hp} {R : It → Hp → Prop} (h : RI τ X.K X.mg W (iRange f) σ H R) (h1 : ∀ ρ S vs S1, f ρ S = .ok vs S1 → ∃ v, vs = [v]) : iRng1 (RA τ X.K X.mg W f) σ H R := by
  obtain ⟨φ, F, ρ, S, g, sl, p⟩ := h
  refine ⟨φ, F, ρ, S, g, sl, ?_⟩
  unfold iRange at p
  cases e0 : f ρ S with
  | bad => rw [e0] at p; exact p
  | ex e S1 => rw [e0] at p; exact p
  | ok vs S1 =>
    rw [e0] at p
    obtain ⟨v, rfl⟩ := h1 _ _ _ _ e0
    intro φ1 F1 H1 nw1 xs r
    have p1 := PostG.start g nw1 p
    obtain ⟨x, rfl, r1⟩ := reps1 r
    simp only [bind_ok] at p1
    cases e : view S1 v with
    | none => simp only [e] at p1; exact p1.elim
    | some d =>
      simp only [e] at p1
      cases d <;> dsimp only at p1 <;> first | exact p1.elim | skip
      rename_i j
      by_cases hl : -(2 ^ 62) ≤ j ∧ j < 2 ^ 62
      · rw [if_pos hl] at p1
        refine ⟨j, by rw [show x = _ from ob_of nw1.sg r1 e], hl.1, hl.2, ?_⟩
        have y := p1 _ _ _ (.refl nw1.sg) _ (yl_range (K := X.K) (F := F1) (H := H1) (lo := 0) (hi := j))
        rwa [Int.sub_zero] at y
      · rw [if_neg hl] at p1; exact p1.elim
theorem range_2 {f : Av} {σ : L2.St} {H : Hp} {R : It → Hp → Prop} (h : RI τ X.K X.mg W (iRange f) σ H R) (h1 : ∀ ρ S vs S1, f ρ S = .ok vs S1 → ∃ v u, vs = [v, u]) : iRng2 (RA τ X.K X.mg W f) σ H R := by
  obtain ⟨φ, F, ρ, S, g, sl, p⟩ := h
  refine ⟨φ, F, ρ, S, g, sl, ?_⟩
  unfold iRange at p
  cases e0 : f ρ S with
  | bad => rw [e0] at p; exact p
  | ex e S1 => rw [e0] at p; exact p
  | ok vs S1 =>
    rw [e0] at p
    obtain ⟨v, u, rfl⟩ := h1 _ _ _ _ e0
    intro φ1 F1 H1 nw1 xs r
    have p1 := PostG.start g nw1 p
    obtain ⟨x, y, rfl, r1, r2⟩ := reps2 r
    simp only [bind_ok] at p1
    split at p1
    · rename_i i j e1 e2
      by_cases hl : -(2 ^ 62) ≤ i ∧ i < 2 ^ 62 ∧ -(2 ^ 62) ≤ j ∧ j < 2 ^ 62
      · rw [if_pos hl] at p1
        exact ⟨i, j, by rw [show x = _ from ob_of nw1.sg r1 e1, show y = _ from ob_of nw1.sg r2 e2], hl, p1 _ _ _ (.refl nw1.sg) _ yl_range⟩
      · rw [if_neg hl] at p1; exact p1.elim
    · exact p1.elim
theorem cons1 {f : Ev} {ρ : Env} {S S1 : Store} {vs : List Vl} (h : aCons f aNil ρ S = .ok vs S1) : ∃ v, vs = [v] := by
  unfold aCons aNil at h
  cases e : f ρ S with
  | ok v S2 => simp only [e, bind_ok] at h; cases h; exact ⟨v, rfl⟩
  | ex x S2 => simp only [e, bind_ex] at h; cases h
  | bad => simp only [e, bind_bad] at h; cases h
theorem cons2 {f g : Ev} {ρ : Env} {S S1 : Store} {vs : List Vl} (h : aCons f (aCons g aNil) ρ S = .ok vs S1) : ∃ v u, vs = [v, u] := by
  unfold aCons at h
  cases e : f ρ S with
  | ok v S2 =>
    simp only [e, bind_ok] at h
    cases e2 : ((g ρ S2).bind fun v S1 => (aNil ρ S1).bind fun vs S2 => Res.ok (v :: vs) S2) with
    | ok us S3 =>
      simp only [e2, bind_ok] at h
      cases h
      obtain ⟨u, rfl⟩ := cons1 (f := g) e2
      exact ⟨v, u, rfl⟩
    | ex x S2 => simp only [e2, bind_ex] at h; cases h
    | bad => simp only [e2, bind_bad] at h; cases h
  | ex x S2 => simp only [e, bind_ex] at h; cases h
  | bad => simp only [e, bind_bad] at h; cases h
theorem di_range1 {c : Expr} {f : Ev} {p pos : Pos} (hg : Gl X "range") (hm : X.mg "range" = none) (h : DA τ X W [c] (aCons f aNil)) (hs : starEach [c] X.env = [(false, eval c X.env)] := by rfl) : DI τ X W tg (.Call (.Name "range" p) [c] [] pos) (iRange (aCons f aNil)) :=
  ⟨PI.mono (pi_range1 hg hm h.r hs) fun σ H Q q => range_1 q fun _ _ _ _ => cons1⟩
theorem di_range2 {c d : Expr} {f f' : Ev} {p pos : Pos} (hg : Gl X "range") (hm : X.mg "range" = none) (h : DA τ X W [c, d] (aCons f (aCons f' aNil))) (hs : starEach [c, d] X.env = [(false, eval c X.env), (false, eval d X.env)] := by rfl) (hs2 : starEach [d] X.env = [(false, eval d X.env)] := by rfl) :
    DI τ X W tg (.Call (.Name "range" p) [c, d] [] pos) (iRange (aCons f (aCons f' aNil))) := ⟨PI.mono (pi_range2 hg hm h.r hs hs2) fun σ H Q q => range_2 q fun _ _ _ _ => cons2⟩
end
section
variable {X : Cx} {W : WX} {k : Nat} {tg it c : Expr} {body : List Stmt} {pos : Pos} {f : Iv} {g : Tg} {ws : List Nat} {sb : Sv} {gc : Tv}
theorem ds_for {j : Nat} (cc : Cc X W j) (hi : DI τ X W tg it f) (hg : DG τ X tg g ws) (hb : DB τ X W body sb) (hs : ∀ x, foldedSetIterable it X.env x = pure x := by intro _; rfl) : DS τ X W (.For tg it body [] pos) (sFor f g sb) :=
  ⟨PS.mono (ps_for cc.po cc.calm hi.r hg.r hb.r hs) fun E σ H ⟨φ, F, ρ, S, gs, sl, p⟩ => ⟨φ, F, ρ, S, gs, sl, PostS.st (R := RepY X.K) gs sl p fun φ1 F1 H1 S1 ds J nw1 yl p1 => by
    have ag : ∀ {φ2 F2 H2 S2}, Now τ X.K S1.length φ1 F1 H1 φ2 F2 H2 S2 → Agree F1 H1 H2 := fun n a h => n.ext.same a h
    refine for_it yl.walk (fun i σ2 H2 => ∃ φ2 F2 ρ2 S2, Now τ X.K S1.length φ1 F1 H1 φ2 F2 H2 S2 ∧ Slots X.K X.mg φ2 F2 H2 S2.length σ2 ρ2 ∧ PostS τ X.K X.mg W S2.length φ2 F2 H2 E (forL g sb (ds.drop i) ρ2 S2)) ⟨φ1, F1, ρ, S1, .refl nw1.sg, sl.now nw1, p1⟩ (fun i σ2 H2 _ ⟨_, _, _, _, n, _⟩ => ag n) ?_ ?_
    · intro i v σ2 H2 H3 hlt ⟨φ2, F2, ρ2, S2, nw2, sl2, p2⟩ ⟨d, hd, yi⟩
      have hdr : ds.drop i = d :: ds.drop (i + 1) := by
        obtain ⟨h1, h2⟩ := List.getElem?_eq_some_iff.mp hd
        rw [← h2, List.drop_eq_getElem_cons h1]
      rw [hdr] at p2
      -- the item, frozen
      obtain ⟨F3, nw3, fz3⟩ : ∃ F3, Now τ X.K S2.length φ2 F2 H2 φ2 F3 H3 S2 ∧ Fz X.K F3 H3 v d := by
        rcases yi with ⟨rfl, fz⟩ | ⟨T, vs, es, rfl, hT, rfl, rfl, fz⟩
        · exact ⟨F2, .refl nw2.sg, fz.ext nw2.ext.sub nw2.ext.same⟩
        · have nw := nw2.sg.fresh (o := .tup vs) hT
          exact ⟨_, nw, .tup (.inl ⟨.inr rfl, upd_same⟩) ((fz.ext nw2.ext.sub nw2.ext.same).ext nw.ext.sub nw.ext.same)⟩
      have p3 := PostS.start nw2.sg nw3 p2
      have sl3 := sl2.now nw3
      refine ⟨φ2, F3, ρ2, S2, .d d, nw3.sg, sl3, fz3, ?_⟩
      unfold forL at p3
      cases q : g (.d d) ρ2 with
      | none => rw [q] at p3; exact p3.elim
      | some ρ3 =>
        simp only [q] at p3 ⊢
        refine fun σ3 sl4 _ => ⟨φ2, F3, ρ3, S2, nw3.sg, sl4, ?_⟩
        have base := Now.trans nw1.sg nw2 nw3
        cases e : sb ρ3 S2 with
        | nx ρ4 S4 =>
          simp only [e] at p3
          exact fun φ5 F5 H5 nw5 σ5 sl5 => ⟨φ5, F5, ρ4, S4, Now.trans nw1.sg base nw5, sl5, PostS.start nw3.sg nw5 p3⟩
        | ct ρ4 S4 =>
          simp only [e] at p3
          exact fun φ5 F5 H5 nw5 σ5 sl5 => ⟨φ5, F5, ρ4, S4, Now.trans nw1.sg base nw5, sl5, PostS.start nw3.sg nw5 p3⟩
        | bk ρ4 S4 => simp only [e] at p3; exact p3
        | ret v4 S4 => simp only [e] at p3; exact p3
        | ex x4 ρ4 S4 => simp only [e] at p3; exact p3
        | bad => simp only [e] at p3; exact p3
    · intro σ2 H2 ⟨φ2, F2, ρ2, S2, nw2, sl2, p2⟩
      rw [List.drop_length] at p2
      exact PostS.nx nw2.sg sl2 p2⟩⟩
theorem ds_while {j : Nat} (cc : Cc X W j) (hc : DT τ X W c gc) (hb : DB τ X W body sb) : DS τ X W (.While c body [] pos) (sWhile gc sb) :=
  ⟨PS.mono (ps_while cc.po hc.r hb.r) fun E σ H ⟨φ, F, ρ, S, gs, sl, p⟩ => by
    have hne : sWhile gc sb ρ S ≠ .bad := fun e => by rw [e] at p; exact p
    obtain ⟨n, hn⟩ := sWhile_ex hne
    refine ⟨fun m σ2 H2 => ∃ φ2 F2 ρ2 S2 r, SG τ X.K φ2 F2 H2 S2 ∧ Slots X.K X.mg φ2 F2 H2 S2.length σ2 ρ2 ∧ whN gc sb m ρ2 S2 = some r ∧ PostS τ X.K X.mg W S2.length φ2 F2 H2 E r, ⟨n, φ, F, ρ, S, _, gs, sl, hn, p⟩, ?_⟩
    rintro m σ2 H2 ⟨φ2, F2, ρ2, S2, r, gs2, sl2, hm, p2⟩
    cases m with
    | zero => simp [whN] at hm
    | succ m =>
      refine ⟨φ2, F2, ρ2, S2, gs2, sl2, ?_⟩
      unfold whN at hm
      cases e : gc ρ2 S2 with
      | bad => simp only [e] at hm; cases hm; exact p2
      | ex x S3 =>
        simp only [e] at hm
        cases hm
        exact fun φ' F' H' nw c od rx => p2 φ' F' H' nw c od rx σ2 (sl2.now nw)
      | ok t S3 =>
        intro φ3 F3 H3 nw3 b eb
        have eb : b = t := eb
        subst eb
        cases b with
        | false =>
          simp only [e] at hm
          cases hm
          simp only [Bool.false_eq_true, if_false]
          exact p2 _ _ _ nw3 σ2 (sl2.now nw3)
        | true =>
          simp only [e] at hm
          simp only [if_true]
          refine ⟨fun σ4 H4 => ∃ φ4 F4 ρ4 S4 r, SG τ X.K φ4 F4 H4 S4 ∧ Slots X.K X.mg φ4 F4 H4 S4.length σ4 ρ4 ∧ whN gc sb m ρ4 S4 = some r ∧ PostS τ X.K X.mg W S4.length φ4 F4 H4 E r, fun σ4 H4 h => ⟨m, Nat.lt_succ_self m, h⟩, φ3, F3, ρ2, S3, nw3.sg, sl2.now nw3, ?_⟩
          have p3 := PostS.start gs2 nw3 p2
          cases e2 : sb ρ2 S3 with
          | nx ρ4 S4 =>
            simp only [e2] at hm
            exact fun φ5 F5 H5 nw5 σ5 sl5 => ⟨φ5, F5, ρ4, S4, r, nw5.sg, sl5, hm, PostS.start nw3.sg nw5 p3⟩
          | ct ρ4 S4 =>
            simp only [e2] at hm
            exact fun φ5 F5 H5 nw5 σ5 sl5 => ⟨φ5, F5, ρ4, S4, r, nw5.sg, sl5, hm, PostS.start nw3.sg nw5 p3⟩
          | bk ρ4 S4 => simp only [e2] at hm; cases hm; exact p3
          | ret v4 S4 => simp only [e2] at hm; cases hm; exact p3
          | ex x4 ρ4 S4 => simp only [e2] at hm; cases hm; exact p3
          | bad => simp only [e2] at hm; cases hm; exact p3⟩
end
def wipeE (ρ : Env) : List Nat → Env
  | [] => ρ
  | v :: vs => (wipeE ρ vs).set v none
def noX {α : Type} : Res α → Res α
  | .ok a S => .ok a S
  | _ => .bad
@[simp] theorem noX_ok {α : Type} (a : α) (S : Store) : noX (Res.ok a S) = .ok a S := rfl
def lcL (g : Tg) (t : Tv) (e : Ev) (ρ : Env) : List D → List D → Store → Res (List D)
  | [], acc, S => .ok acc S
  | x :: xs, acc, S => match g (.d x) ρ with
    | none => .bad
    | some ρ1 => (noX (t ρ1 S)).bind fun c S1 => if c = true then (noX (e ρ1 S1)).bind fun v S2 => (fr v S2).bind fun d S3 => if acc.length < sizeLine then lcL g t e ρ xs (acc ++ [d]) S3 else .bad
      else lcL g t e ρ xs acc S1
def eLc (m : Bool) (it : Iv) (g : Tg) (t : Tv) (e : Ev) (vs : List Nat) : Ev := fun ρ S => (it ρ S).bind fun ds S1 => (lcL g t e (wipeE ρ vs) ds [] S1).bind fun acc S2 => mkL m acc S2
def tYesD : Tv := fun _ S => .ok true S
structure DTs (τ : Tb) (X : Cx) (W : WX) (ifs : List Expr) (t : Tv) : Prop where
  r : PTs X ifs (RT τ X.K X.mg W t)
theorem PTs.mono {X : Cx} {e : List Expr} {t t' : TT} (h : PTs X e t) (m : ∀ σ H Q, t' σ H Q → t σ H Q) : PTs X e t' := ⟨fun pins s σ H Q I q => h.run pins s σ H Q I (m _ _ _ q)⟩
theorem dts_nil {X : Cx} {W : WX} : DTs τ X W [] tYesD := ⟨PTs.mono pts_nil fun σ H Q ⟨φ, F, ρ, S, g, sl, p⟩ => PostT.ok g p⟩
theorem dts_one {X : Cx} {W : WX} {c : Expr} {t : Tv} (h : DT τ X W c t) : DTs τ X W [c] t := ⟨pts_one h.r⟩
section
variable {K : PySem.W.Frag} {mg : Str → Option Value} {φ : Nat → Addr} {F : Addr → Prop} {H : Hp} {n : Nat}
theorem wipeE_length (ρ : Env) : ∀ vs : List Nat, (wipeE ρ vs).length = ρ.length
  | [] => rfl
  | v :: vs => by unfold wipeE; rw [List.length_set, wipeE_length ρ vs]
theorem wipe_get (σ : L2.St) (i : Nat) : ∀ vs : List Nat, (L2.wipe σ vs)[i]? = if i ∈ vs then (if i < σ.length then some none else none) else σ[i]?
  | [] => by simp [L2.wipe]
  | v :: vs => by
    unfold L2.wipe
    by_cases hv : v = i
    · subst hv
      by_cases hl : v < σ.length
      · rw [List.getElem?_set_self (by rw [wipe_length]; exact hl)]; simp [hl]
      · rw [List.getElem?_eq_none (by rw [List.length_set, wipe_length]; omega)]; simp [hl]
    · rw [List.getElem?_set_ne hv, wipe_get σ i vs]
      have : i ∈ v :: vs ↔ i ∈ vs := by simp [Ne.symm hv]
      simp only [this]
theorem wipeE_get (σ : Env) (i : Nat) : ∀ vs : List Nat, (wipeE σ vs)[i]? = if i ∈ vs then (if i < σ.length then some none else none) else σ[i]?
  | [] => by simp [wipeE]
  | v :: vs => by
    unfold wipeE
    by_cases hv : v = i
    · subst hv
      by_cases hl : v < σ.length
      · rw [List.getElem?_set_self (by rw [wipeE_length]; exact hl)]; simp [hl]
      · rw [List.getElem?_eq_none (by rw [List.length_set, wipeE_length]; omega)]; simp [hl]
    · rw [List.getElem?_set_ne hv, wipeE_get σ i vs]
      have : i ∈ v :: vs ↔ i ∈ vs := by simp [Ne.symm hv]
      simp only [this]
theorem Slots.wiped {σ : L2.St} {ρ : Env} (r : Slots K mg φ F H n σ ρ) (vs : List Nat) : Slots K mg φ F H n (L2.wipe σ vs) (wipeE ρ vs) := by
  refine ⟨by rw [wipe_length, wipeE_length]; exact r.1, fun i x h => ?_⟩
  rw [wipeE_get] at h
  split at h
  · split at h <;> cases h
  · rename_i hn
    obtain ⟨v, h1, h2⟩ := r.2 i x h
    exact ⟨v, by rw [wipe_get, if_neg hn]; exact h1, h2⟩
theorem wipe_same {σ σ1 : L2.St} {ws vs : List Nat} (hw : ∀ i, i ∈ ws → i ∈ vs) (kp : Kept ws (L2.wipe σ vs) σ1) : L2.wipe σ1 vs = L2.wipe σ vs := by
  obtain ⟨hl, h⟩ := kp
  apply List.ext_getElem?
  intro i
  rw [wipe_length] at hl
  rw [wipe_get, wipe_get]
  by_cases hi : i ∈ vs
  · simp only [hi, if_true, hl]
  · simp only [hi, if_false]
    rw [h i fun q => hi (hw i q), wipe_get, if_neg hi]
end
section
variable {X : Cx} {W : WX} {tg it elt : Expr} {ifs : List Expr} {scope : Scope} {own : List (Str × Nat)} {pos : Pos} {f : Iv} {g : Tg} {ws : List Nat} {t : Tv} {e : Ev}
theorem lc_reads {m : Bool} {vs : List Nat} (hw : ∀ i, i ∈ ws → i ∈ vs) {σ : L2.St} {H : Hp} {Q : VK} (h : RE τ X.K X.mg W (eLc m f g t e vs) σ H Q) :
    tLc (RI τ X.K X.mg W f) (RG τ X.K X.mg g ws) (RT τ X.K X.mg W0 t) (RE τ X.K X.mg W0 e) vs σ H Q := by
  obtain ⟨φ, F, ρ, S, gs, sl, p⟩ := h
  refine ⟨φ, F, ρ, S, gs, sl, PostG.bind gs p fun φ1 F1 H1 S1 ds J nw1 yl p1 => fun Dd hD => ?_⟩
  have sl1 := sl.now nw1
  have dom1 := nw1.sg.dom
  have nF1 : ¬ F1 Dd := fun h => dom1 Dd h hD
  refine lc_it yl.walk (fun i H2 => ∃ φ2 F2 S2 xs acc, Now τ X.K S1.length φ1 F1 H1 φ2 F2 H2 S2 ∧ H2 Dd = some (.lst xs) ∧ ¬ F2 Dd ∧ (∀ i, i < S2.length → φ2 i ≠ Dd) ∧ FzAll X.K F2 H2 xs acc ∧
      Post τ X.K X.mg (fun c od H' => W c od σ H') S1.length φ1 F1 H1 Q ((lcL g t e (wipeE ρ vs) (ds.drop i) acc S2).bind fun acc S2 => mkL m acc S2))
    ⟨φ1, F1, S1, [], [], (Now.refl nw1.sg).other hD (.inl hD) dom1 nF1 fun i hi => nw1.sg.neAt hi hD, upd_same, nF1, fun i hi => nw1.sg.neAt hi hD, .nil, p1⟩ (fun i H2 _ ⟨_, _, _, _, _, n, _⟩ a h => n.ext.same a h) ?_ ?_
  · intro i v H2 H3 hlt ⟨φ2, F2, S2, xs, acc, nw2, d2, f2, s2, fz2, p2⟩ ⟨d, hd, yi⟩
    have hdr : ds.drop i = d :: ds.drop (i + 1) := by
      obtain ⟨h1, h2⟩ := List.getElem?_eq_some_iff.mp hd
      rw [← h2, List.drop_eq_getElem_cons h1]
    rw [hdr] at p2
    obtain ⟨F3, nw3, fz3⟩ : ∃ F3, Now τ X.K S2.length φ2 F2 H2 φ2 F3 H3 S2 ∧ Fz X.K F3 H3 v d := by
      rcases yi with ⟨rfl, fz⟩ | ⟨T, us, es, rfl, hT, rfl, rfl, fz⟩
      · exact ⟨F2, .refl nw2.sg, fz.ext nw2.ext.sub nw2.ext.same⟩
      · have nw := nw2.sg.fresh (o := .tup us) hT
        exact ⟨_, nw, .tup (.inl ⟨.inr rfl, upd_same⟩) ((fz.ext nw2.ext.sub nw2.ext.same).ext nw.ext.sub nw.ext.same)⟩
    have base3 := Now.trans nw1.sg nw2 nw3
    obtain ⟨d3, f3, s3⟩ := nw3.priv (by rw [d2]; simp) (by rw [d2]; simp) f2 s2
    have slw : Slots X.K X.mg φ2 F3 H3 S2.length (L2.wipe σ vs) (wipeE ρ vs) := ((sl1.now nw2).now nw3).wiped vs
    refine ⟨φ2, F3, wipeE ρ vs, S2, .d d, nw3.sg, slw, fz3, ?_⟩
    unfold lcL at p2
    cases q : g (.d d) (wipeE ρ vs) with
    | none => rw [q] at p2; exact p2.elim
    | some ρ3 =>
      simp only [q] at p2 ⊢
      have go : Post τ X.K X.mg (fun c od H' => W c od σ H') S1.length φ1 F1 H1 Q (((noX (t ρ3 S2)).bind fun c S1 => if c = true then (noX (e ρ3 S1)).bind fun v S2 => (fr v S2).bind fun d S3 => if acc.length < sizeLine then lcL g t e (wipeE ρ vs) (ds.drop (i + 1)) (acc ++ [d]) S3 else .bad
        else lcL g t e (wipeE ρ vs) (ds.drop (i + 1)) acc S1).bind fun acc S2 => mkL m acc S2) := p2
      refine fun σ3 sl3 n3 => ⟨wipe_same hw n3, φ2, F3, ρ3, S2, nw3.sg, sl3, ?_⟩
      cases et : t ρ3 S2 with
      | bad => rw [et] at go; exact go.elim
      | ex x S4 => rw [et] at go; exact go.elim
      | ok b S4 =>
        rw [et] at go
        simp only [noX_ok, bind_ok] at go
        intro φ4 F4 H4 nw4 b' eb
        have eb : b' = b := eb
        subst eb
        have base4 := Now.trans nw1.sg base3 nw4
        obtain ⟨d4, f4, s4⟩ := nw4.priv (by rw [d3, d2]; simp) (by rw [d3, d2]; simp) f3 s3
        have d4' : H4 Dd = some (.lst xs) := by rw [d4, d3, d2]
        have fz4 : FzAll X.K F4 H4 xs acc := (fz2.ext nw3.ext.sub nw3.ext.same).ext nw4.ext.sub nw4.ext.same
        cases b' with
        | false =>
          simp only [Bool.false_eq_true, if_false] at go ⊢
          exact ⟨φ4, F4, S4, xs, acc, base4, d4', f4, s4, fz4, go⟩
        | true =>
          simp only [if_true] at go ⊢
          refine ⟨φ4, F4, ρ3, S4, nw4.sg, sl3.now nw4, ?_⟩
          cases ee : e ρ3 S4 with
          | bad => rw [ee] at go; exact go.elim
          | ex x S5 => rw [ee] at go; exact go.elim
          | ok v5 S5 =>
            rw [ee] at go
            simp only [noX_ok, bind_ok] at go
            intro φ5 F5 H5 nw5 y ry
            have hne : fr v5 S5 ≠ .bad := fun e => by rw [e] at go; exact go
            obtain ⟨φ6, F6, S6, d6, nw6, fz6, e6⟩ := fr_ok nw5.sg ry hne
            rw [e6] at go
            simp only [noX_ok, bind_ok] at go
            by_cases hl : acc.length < sizeLine
            · rw [if_pos hl] at go
              have nw56 := Now.trans nw4.sg nw5 nw6
              have base6 := Now.trans nw1.sg base4 nw56
              obtain ⟨d7, f7, s7⟩ := nw56.priv (by rw [d4']; simp) (by rw [d4']; simp) f4 s4
              rw [d4'] at d7
              have fz7 : FzAll X.K F6 H5 xs acc := fz4.ext nw56.ext.sub nw56.ext.same
              refine ⟨xs, d7, by rw [fz7.len]; exact hl, φ6, F6, S6, xs ++ [y], acc ++ [d6], base6.other hD (.inr ⟨_, d7, plain_lst⟩) dom1 f7 s7, upd_same, f7, s7, ?_, go⟩
              exact (fz7.append (.cons fz6 .nil)).ext (fun _ h => h) fun a h => upd_ne fun e => f7 (by rw [← e]; exact h)
            · rw [if_neg hl] at go; exact go.elim
  · intro H2 ⟨φ2, F2, S2, xs, acc, nw2, d2, f2, s2, fz2, p2⟩
    rw [List.drop_length] at p2
    have p2 : Post τ X.K X.mg (fun c od H' => W c od σ H') S1.length φ1 F1 H1 Q (mkL m acc S2) := p2
    cases m with
    | true => exact p2 _ _ _ (nw2.keep hD s2 ⟨f2, xs, d2, fz2⟩) _ ⟨by simp, by simp⟩
    | false => exact p2 _ _ _ (nw2.take hD (by rw [d2]; simp) (by rw [d2]; simp) s2) _ (.lst (.inr rfl) d2 (fz2.ext (fun _ h => .inl h) fun _ _ => rfl))
theorem de_lc {k : Nat} (m : Bool) (cc : Cc X W k) (hi : DI τ X W tg it f) (ok : BlkOk X.N X.env.scope scope own) (hg : ∀ (s : Shared) (H : Hp) (C : Addr) (cl : List (Str × Addr)) (fp : List Addr), DG τ (X.blk s H scope (compEnvC scope cl C X.env) fp) tg g ws)
    (ht : ∀ (s : Shared) (H : Hp) (C : Addr) (cl : List (Str × Addr)) (fp : List Addr), DTs τ (X.blk s H scope (compEnvC scope cl C X.env) fp) W0 ifs t) (he : ∀ (s : Shared) (H : Hp) (C : Addr) (cl : List (Str × Addr)) (fp : List Addr), DE τ (X.blk s H scope (compEnvC scope cl C X.env) fp) W0 elt e)
    (hw : ∀ i, i ∈ ws → i ∈ own.map (·.2) := by decide) (hs : ∀ x, foldedSetIterable it X.env x = pure x := by intro _; rfl) : DE τ X W (.ListComp elt [⟨tg, it, ifs, 0⟩] scope pos) (eLc m f g t e (own.map (·.2))) :=
  ⟨PE.mono (pe_lc cc.calm cc.nd hi.r ok (fun s H C cl fp => (hg s H C cl fp).r) (fun s H C cl fp => (ht s H C cl fp).r) (fun s H C cl fp => (he s H C cl fp).r) hs) fun σ H Q h => lc_reads hw h⟩
theorem ds_lc {k : Nat} (i : Nat) {y : Str} {py spos : Pos} (m : Bool) (cc : Cc X W k) (hy : X.N[i]? = some y) (hyl : X.env.scope.names.lookup y = some .local) (hsw : swapsWith (.ListComp elt [⟨tg, it, ifs, 0⟩] scope pos) (some (.Name y py)) spos.line X.env = pure true) (hi : DI τ X W tg it f) (ok : BlkOk X.N X.env.scope scope own)
    (hg : ∀ (s : Shared) (H : Hp) (C : Addr) (cl : List (Str × Addr)) (fp : List Addr), DG τ (X.blk s H scope (compEnvC scope cl C X.env) fp) tg g ws) (ht : ∀ (s : Shared) (H : Hp) (C : Addr) (cl : List (Str × Addr)) (fp : List Addr), DTs τ (X.blk s H scope (compEnvC scope cl C X.env) fp) W0 ifs t)
    (he : ∀ (s : Shared) (H : Hp) (C : Addr) (cl : List (Str × Addr)) (fp : List Addr), DE τ (X.blk s H scope (compEnvC scope cl C X.env) fp) W0 elt e) (hw : ∀ i, i ∈ ws → i ∈ own.map (·.2) := by decide) (hs : ∀ x, foldedSetIterable it X.env x = pure x := by intro _; rfl) :
    DS τ X W (.Assign [.Name y py] (.ListComp elt [⟨tg, it, ifs, 0⟩] scope pos) spos) (sSet i (eLc m f g t e (own.map (·.2)))) :=
  ⟨PS.mono (ps_setLc cc.calm cc.nd hy hyl hsw hi.r ok (fun s H C cl fp => (hg s H C cl fp).r) (fun s H C cl fp => (ht s H C cl fp).r) (fun s H C cl fp => (he s H C cl fp).r) hs) fun E σ H ⟨φ, F, ρ, S, gs, sl, p⟩ =>
    lc_reads (W := W) hw ⟨φ, F, ρ, S, gs, sl, PostS.st gs sl p fun φ1 F1 H1 S1 v x nw1 r1 p1 => PostS.nx nw1.sg ((sl.now nw1).set r1) p1⟩⟩
end
def sRaise (x : Str) : Sv := fun ρ S => .ex ⟨x, []⟩ ρ S
theorem ds_raise {X : Cx} {W : WX} {k : Nat} {e : Expr} {pos : Pos} {x : Str} {C : Addr} (cc : Cc X W k) (hm : X.mg x = some (.ref C)) (he : PMk X e (fun _ H Q => Q (.ref C) none H)) : DS τ X W (.Raise (some e) none pos) (sRaise x) :=
  ⟨PS.mono (ps_raise cc.calm cc.tk he) fun E σ H ⟨φ, F, ρ, S, gs, sl, p⟩ => p φ F H (.refl gs) _ _ ⟨hm, rfl⟩ σ sl⟩
section
variable {P : Program} {w : World} {K : PySem.W.Frag} {mg : Str → Option Value} {base : Heap} {φ φ' : Nat → Addr} {F F' : Addr → Prop} {H H' : Hp} {S S' : Store} {n : Nat}
theorem Now.cut (nw : Now τ K n φ F H φ' F' H' S') : Now τ K n φ F H φ' F' H' (S'.take n) :=
  ⟨nw.ext, nw.sg.take n, by rw [List.length_take]; exact Nat.le_min.mpr ⟨Nat.le_refl _, nw.le⟩, nw.rest, nw.alive, fun i h1 h2 => absurd h2 (by rw [List.length_take]; omega), nw.fnew⟩
theorem slots_start {vs : List V} {xs : List Vl} (r : RepVs K mg φ F H n vs xs) (m : Nat) : Slots K mg φ F H n (vs.map some ++ List.replicate m none) (xs.map some ++ List.replicate m none) := by
  have ln := r.len
  refine ⟨by simp [ln], fun i x h => ?_⟩
  have get : ∀ {vs : List V} {xs : List Vl} {i : Nat} {x : Vl}, RepVs K mg φ F H n vs xs → xs[i]? = some x → ∃ v, vs[i]? = some v ∧ RepV K mg φ F H n v x := fun {vs} => by
    induction vs with
    | nil => intro xs i x r h; cases xs with
      | nil => simp at h
      | cons y ys => exact r.elim
    | cons v vs ih => intro xs i x r h; cases xs with
      | nil => exact r.elim
      | cons y ys =>
        cases i with
        | zero => simp at h; subst h; exact ⟨v, rfl, r.1⟩
        | succ i =>
          obtain ⟨v', h1, h2⟩ := ih r.2 (by simpa using h)
          exact ⟨v', by simpa using h1, h2⟩
  by_cases hi : i < xs.length
  · rw [List.getElem?_append_left (by simpa using hi), List.getElem?_map] at h
    cases q : xs[i]? with
    | none => rw [q] at h; cases h
    | some y =>
      rw [q] at h
      cases h
      obtain ⟨v, h1, h2⟩ := get r q
      exact ⟨v, by rw [List.getElem?_append_left (by simpa [ln] using hi), List.getElem?_map, h1]; rfl, h2⟩
  · rw [List.getElem?_append_right (by simpa using hi), List.getElem?_replicate] at h
    split at h <;> cases h
theorem leave_ok {E : XW} {Q : VK} {v : Vl} {x : V} (g : SG τ K φ F H S) (nw : Now τ K S.length φ F H φ' F' H' S') (r : RepV K mg φ' F' H' S'.length x v) (p : Post τ K mg E S.length φ F H Q (leave S.length v S')) : Q x H' := by
  have small : RepV K mg φ' F' H' S'.length x v → (∀ i, v ≠ .loc i) → (∀ q, v ≠ .lam q) → RepV K mg φ' F' H' (S'.take S.length).length x v := fun r hn hm => by
    cases v with
    | loc i => exact absurd rfl (hn i)
    | lam q => exact absurd rfl (hm q)
    | _ => exact r
  cases v with
  | loc i =>
    unfold leave at p
    obtain ⟨hi, rfl⟩ := r
    by_cases hl : i < S.length
    · simp only [hl, if_true] at p
      exact p _ _ _ nw.cut _ ⟨by rw [List.length_take]; omega, rfl⟩
    · simp only [hl, if_false] at p
      cases q : S'[i]? with
      | none => rw [q] at p; exact p.elim
      | some o =>
        simp only [q] at p
        have hlen : (S'.take S.length).length = S.length := by rw [List.length_take]; exact Nat.min_eq_left nw.le
        have k := nw.cut.keep (p := φ' i) (mo := o) (nw.new i (Nat.not_lt.mp hl) hi) (fun j hj e => by
          rw [hlen] at hj
          have := nw.sg.inj j i (Nat.lt_of_lt_of_le hj nw.le) hi e
          omega) (nw.sg.obj i o q)
        rw [hlen] at k
        exact p _ _ _ k _ ⟨by rw [List.length_append, hlen]; simp, by simp⟩
  | d y => exact p _ _ _ nw.cut _ (small r (fun _ h => nomatch h) fun _ h => nomatch h)
  | glo y => exact p _ _ _ nw.cut _ (small r (fun _ h => nomatch h) fun _ h => nomatch h)
  | ty y => exact p _ _ _ nw.cut _ (small r (fun _ h => nomatch h) fun _ h => nomatch h)
  | tys y => exact p _ _ _ nw.cut _ (small r (fun _ h => nomatch h) fun _ h => nomatch h)
  | scr y => exact p _ _ _ nw.cut _ (small r (fun _ h => nomatch h) fun _ h => nomatch h)
  | xa y => exact p _ _ _ nw.cut _ (small r (fun _ h => nomatch h) fun _ h => nomatch h)
  | lam y => exact (show False from p).elim
  | glos y => exact p _ _ _ nw.cut _ (small r (fun _ h => nomatch h) fun _ h => nomatch h)
abbrev cxD (P : Program) (w : World) (K : PySem.W.Frag) (mg : Str → Option Value) (base : Heap) (N : List Str) (q : Str) (st : Stmt) (f : Addr) (cdv : Value) (B : Around) (fs : List PySem.Env) (s : Shared) (H : Hp) (E : XK) : Cx := cxOf (L2.CX P w) P w K mg base N q (defScope st) f cdv B fs s H E
abbrev wD (E : XK) : WX := fun c d _ H => E c d H
theorem cc_def {N : List Str} {q : Str} {st : Stmt} {f : Addr} {cdv : Value} {B : Around} {fs : List PySem.Env} {s : Shared} {H : Hp} {E : XK} {k : Nat} (nd : N.Nodup) (rm : Room k (B.deeper (envOfC q (defScope st) s.heap.objs.size f cdv))) (gd : B.guards = some []) :
    Cc (cxD P w K mg base N q st f cdv B fs s H E) (wD E) k := ⟨rfl, nd, takes_of rfl rfl rfl rfl, rm, passes_of rfl, gd⟩
theorem fk_fnC {x q : Str} {st : Stmt} {f : Addr} {fd : FuncData} {N ps : List Str} {k : Nat} {b : Sv} (Fu : Fun K x q st f fd) (Sc : FnScope N ps (defScope st))
    (body : ∀ (cdv : Value), fd.code = cdv → ∀ (B : Around) (fs : List PySem.Env) (s : Shared) (H : Hp) (E : XK), Cc (cxD P w K mg base N q st f cdv B fs s H E) (wD E) k → DB τ (cxD P w K mg base N q st f cdv B fs s H E) (wD E) (defBody st) b) :
    Fk P w K mg base (k + 1) f fd ps (spN τ K mg ps.length (fnOf N.length b)) := by
  refine fk_of Fu Sc (fun vs H Q E h => h.1) fun cdv hc B fs s H vs Q E rm gd ⟨hl, φ, F, xs, S, g, r, p⟩ => ⟨_, (body cdv hc B fs s H E (cc_def Sc.nd rm gd)).r, φ, F, _, S, g, slots_start r _, ?_⟩
  have p0 : Post τ K mg E S.length φ F H Q (fnOf N.length b xs S) := p
  unfold fnOf at p0
  rw [← r.len] at p0
  cases e : b (xs.map some ++ List.replicate (N.length - vs.length) none) S with
  | nx ρ S1 => rw [e] at p0; exact fun φ1 F1 H1 nw σ1 sl => p0 _ _ _ nw.cut .non .non
  | ret v S1 => rw [e] at p0; exact fun φ1 F1 H1 nw x rx => leave_ok g nw rx p0
  | ex x ρ S1 => rw [e] at p0; exact fun φ1 F1 H1 nw c od rx σ1 sl => p0 _ _ _ nw.cut c od rx
  | bk ρ S1 => rw [e] at p0; exact (show False from p0).elim
  | ct ρ S1 => rw [e] at p0; exact (show False from p0).elim
  | bad => rw [e] at p0; exact p0
theorem fk_fn {x q : Str} {st : Stmt} {f : Addr} {fd : FuncData} {N ps : List Str} {k : Nat} {b : Sv} (Fu : Fun K x q st f fd) (Sc : FnScope N ps (defScope st))
    (body : ∀ (cdv : Value) (B : Around) (fs : List PySem.Env) (s : Shared) (H : Hp) (E : XK), Cc (cxD P w K mg base N q st f cdv B fs s H E) (wD E) k → DB τ (cxD P w K mg base N q st f cdv B fs s H E) (wD E) (defBody st) b) :
    Fk P w K mg base (k + 1) f fd ps (spN τ K mg ps.length (fnOf N.length b)) := fk_fnC Fu Sc fun cdv _ => body cdv
end
def cutD (xs : List D) (lo hi : Option Int) : List D := (xs.drop (HT.sIx xs.length 0 lo)).take (HT.sIx xs.length xs.length hi - HT.sIx xs.length 0 lo)
abbrev Pv := Env → Store → Res (Option Int)
def pNo : Pv := fun _ S => .ok none S
def pAt (f : Ev) : Pv := fun ρ S => (f ρ S).bind fun v S1 => match view S1 v with
  | some (.int i) => .ok (some i) S1
  | _ => .bad
def slV (m : Bool) (v : Vl) (lo hi : Option Int) (S : Store) : Res Vl := match v with
  | .scr ns => mkL m (cutD (ns.map .int) lo hi) S
  | v => match view S v with
    | some (.list xs) => mkL m (cutD xs lo hi) S
    | some (.tuple xs) => .ok (.d (.tuple (cutD xs lo hi))) S
    | _ => .bad
def eSl (m : Bool) (f : Ev) (lo hi : Pv) : Ev := fun ρ S => (f ρ S).bind fun v S1 => (lo ρ S1).bind fun l S2 => (hi ρ S2).bind fun h S3 => slV m v l h S3
abbrev RepP : (Nat → Addr) → (Addr → Prop) → Hp → Nat → Option Int → Option Int → Prop := fun _ _ _ _ x v => x = v
def RP (τ : Tb) (K : PySem.W.Frag) (mg : Str → Option Value) (W : WX) (f : Pv) : TO := fun σ H Q => ∃ φ F ρ S, SG τ K φ F H S ∧ Slots K mg φ F H S.length σ ρ ∧ PostG τ K mg RepP (fun c od H' => W c od σ H') S.length φ F H Q (f ρ S)
structure DP (τ : Tb) (X : Cx) (W : WX) (e : Option Expr) (f : Pv) : Prop where
  r : PO X e (RP τ X.K X.mg W f)
theorem PO.mono {X : Cx} {e : Option Expr} {t t' : TO} (h : PO X e t) (m : ∀ σ H Q, t' σ H Q → t σ H Q) : PO X e t' := ⟨fun pins s σ H Q I q => h.run pins s σ H Q I (m _ _ _ q)⟩
section
variable {K : PySem.W.Frag} {mg : Str → Option Value} {φ : Nat → Addr} {F : Addr → Prop} {H : Hp} {S : Store}
theorem FzAll.cut {xs : List V} {ds : List D} (h : FzAll K F H xs ds) (lo hi : Option Int) : FzAll K F H (cutV xs lo hi) (cutD ds lo hi) := by
  unfold cutV cutD
  rw [h.len]
  exact (h.drop _).take _
theorem cutD_whole {ds : List D} {lo hi : Option Int} (h : HT.sIx ds.length 0 lo = 0 ∧ HT.sIx ds.length ds.length hi = ds.length) : cutD ds lo hi = ds := by
  unfold cutD
  rw [h.1, h.2]
  simp
theorem fz_ints : ∀ ns : List Int, FzAll K F H (ns.map V.int) (ns.map .int)
  | [] => .nil
  | n :: ns => .cons (.int n) (fz_ints ns)
end
section
variable {X : Cx} {W : WX} {e : Expr} {lo hi : Option Expr} {f : Ev} {fl fh : Pv} {pos p2 : Pos}
theorem dp_no : DP τ X W none pNo := ⟨PO.mono po_none fun σ H Q ⟨φ, F, ρ, S, g, sl, p⟩ => p _ _ _ (.refl g) _ rfl⟩
theorem dp_at (h : DE τ X W e f) : DP τ X W (some e) (pAt f) := ⟨PO.mono (po_some h.r) fun σ H Q ⟨φ, F, ρ, S, g, sl, p⟩ => ⟨φ, F, ρ, S, g, sl, PostG.bind g p fun φ1 F1 H1 S1 v x nw1 r1 p1 => by
  split at p1
  · rename_i i q
    exact ⟨i, ob_of nw1.sg r1 q, p1 _ _ _ (.refl nw1.sg) _ rfl⟩
  · exact p1.elim⟩⟩
theorem de_sl (m : Bool) (he : DE τ X W e f) (hl : DP τ X W lo fl) (hh : DP τ X W hi fh) : DE τ X W (.Subscript e (.Slice lo hi none p2) pos) (eSl m f fl fh) := ⟨PE.mono (pe_slice (sl_list.or sl_tupA) he.r hl.r hh.r) fun σ H Q ⟨φ, F, ρ, S, g, sl, p⟩ =>
  ⟨φ, F, ρ, S, g, sl, PostG.bind g p fun φ1 F1 H1 S1 v x nw1 r1 p1 => ⟨φ1, F1, ρ, S1, nw1.sg, sl.now nw1, PostG.bind nw1.sg p1 fun φ2 F2 H2 S2 l l' nw2 r2 p2 => by
    have r2 : l' = l := r2
    subst r2
    refine ⟨φ2, F2, ρ, S2, nw2.sg, (sl.now nw1).now nw2, PostG.bind nw2.sg p2 fun φ3 F3 H3 S3 h h' nw3 r3 p3 => ?_⟩
    have r3 : h' = h := r3
    subst r3
    have rv := (r1.now nw2).now nw3
    unfold slV at p3
    split at p3
    · rename_i ns
      obtain ⟨a, rfl, q⟩ := rv
      have sq : SqL X.K H3 a (ns.map V.int) := q.elim (fun ⟨_, o, z⟩ => .inl (.inr ⟨o, z⟩)) fun z => .inr z
      exact .inl ⟨a, _, rfl, sq, Post.newL nw3.sg ((fz_ints ns).cut _ _) p3⟩
    · split at p3
      · rename_i ds q
        obtain ⟨a, xs, rfl, h1, h2⟩ := ob_of nw3.sg rv q
        exact .inl ⟨a, xs, rfl, .inl (.inl h1), Post.newL nw3.sg (h2.cut _ _) p3⟩
      · rename_i ds q
        obtain ⟨a, xs, rfl, h1, h2⟩ := ob_of nw3.sg rv q
        refine .inr ⟨a, xs, rfl, h1.sq, fun hw => ?_, fun _ => Post.newT nw3.sg (h2.cut _ _) p3⟩
        rw [h2.len] at hw
        rw [cutD_whole hw] at p3
        exact Post.ok nw3.sg p3 (.tup h1 h2)
      · exact p3.elim⟩⟩⟩
end
def fRepr : Fn := fun vs S => match vs with
  | [v] => match view S v with
    | some d => if (shal d && d.showable && decide (d.shown.length ≤ sizeLine)) = true then .ok (.d (.str d.shown)) S else .bad
    | none => .bad
  | _ => .bad
def rRepr (K : PySem.W.Frag) : List V → Hp → VK → Prop := fun vs H Q => ∃ x d, vs = [x] ∧ Dp K H x d ∧ shal d = true ∧ d.showable = true ∧ d.shown.length ≤ sizeLine ∧ Q (.str d.shown) H
theorem ok_repr {K : PySem.W.Frag} {mg : Str → Option Value} : CallOk τ K mg (rRepr K) fRepr := by
  intro φ F H S xs vs Q W g r p
  unfold fRepr at p
  split at p
  · rename_i v
    obtain ⟨x, rfl, r1⟩ := reps1 r
    cases e : view S v with
    | none => rw [e] at p; exact p.elim
    | some d =>
      simp only [e] at p
      by_cases hl : (shal d && d.showable && decide (d.shown.length ≤ sizeLine)) = true
      · rw [if_pos hl] at p
        have h2 : (shal d = true ∧ d.showable = true) ∧ d.shown.length ≤ sizeLine := by simpa using hl
        exact ⟨x, d, rfl, (ob_of g r1 e).dp (shal_p h2.1.1).1, h2.1.1, h2.1.2, h2.2, Post.ok g p (.str _)⟩
      · rw [if_neg hl] at p; exact p.elim
  · exact p.elim
mutual
theorem plain_noDict : ∀ d : D, d.plain = true → d.hasDict = false
  | .none, _ => by simp [PyData.hasDict]
  | .bool _, _ => by simp [PyData.hasDict]
  | .int _, _ => by simp [PyData.hasDict]
  | .str _, _ => by simp [PyData.hasDict]
  | .list xs, h => by
    simp only [PyData.hasDict]
    exact plain_noDicts xs (by simpa [PyData.plain] using h)
  | .tuple xs, h => by
    simp only [PyData.hasDict]
    exact plain_noDicts xs (by simpa [PyData.plain] using h)
  | .dict _, h => by simp [PyData.plain] at h
theorem plain_noDicts : ∀ ds : List D, PyData.plainAll ds = true → PyData.hasDictAll ds = false
  | [], _ => by simp [PyData.hasDictAll]
  | x :: xs, h => by
    have h2 : x.plain = true ∧ PyData.plainAll xs = true := by simpa [PyData.plainAll] using h
    simp only [PyData.hasDictAll, plain_noDict x h2.1, plain_noDicts xs h2.2, Bool.or_self]
end
theorem call_reprX {X : Cx} (hg : X.A.guards = some []) (hu : X.A.units + 64 < cLine) : CallR X (.builtin "repr") (rRepr X.K) := by
  intro pins s σ H xs us Q I r h
  obtain ⟨x, d, rfl, dp, hs, hsh, hz, q⟩ := h
  obtain ⟨u, rfl, ru⟩ := vals1 r
  obtain ⟨as, rd⟩ := Dp.reads I d x u dp ru
  have fin : ∀ (h' : Heap) (t : Tok) (tk : Nat), (∀ b o, s.heap.get? b = some o → h'.get? b = some o) → EP X pins σ Q (.str d.shown t) { s with heap := h', toks := tk } := fun h' t tk hk => ⟨.str d.shown, H, I.kept hk, ⟨_, rfl⟩, q⟩
  have hd := (shal_p hs).2
  have nd := plain_noDict d (shal_p hs).1
  cases rd with
  | none => exact PySem.P.repr_of_none (fin s.heap _ _ fun _ _ z => z)
  | bool b =>
    refine PySem.P.repr_of_bool ?_
    have := fin s.heap s.toks (s.toks + 1) fun _ _ z => z
    cases b <;> exact this
  | int i t =>
    have hi : i.natAbs.log2 < 1920 := by simpa [PyData.showable] using hsh
    exact PySem.P.repr_of_int hi (fin s.heap _ _ fun _ _ z => z)
  | str y t => exact PySem.P.repr_of_str (fin s.heap _ _ fun _ _ z => z) hz
  | list h1 h2 h3 h4 => exact repr_of_reads' (.list h1 h2 h3 h4) hsh (fun z => by rw [nd] at z; cases z) hg (by omega) (fun _ _ e => e) (fun h' u tk hk => fin h' u tk hk) hz
  | tuple h1 h2 h3 h4 => exact repr_of_reads' (.tuple h1 h2 h3 h4) hsh (fun z => by rw [nd] at z; cases z) hg (by omega) (fun _ _ e => e) (fun h' u tk hk => fin h' u tk hk) hz
  | dict => rw [PyData.hasDict] at nd; cases nd
theorem walk_fk {l : PySem.W.OpenLaw} {n k : Nat} {q : Program} {loose : List Str} {XP : (Str → Option Value) → Heap → Prop} {YP : World → Heap → Prop} {d : DefRec} {K : Params → PySem.W.Frag} {x : Str} {g : Fn}
    (hn : l.most = some n) (hn2 : n ≤ sizeLine) (noDef : d.params.defaults = []) (room : Room k callerA) (hY : ∀ (w : World) (h : Heap), YP w h → (K w.params).In h)
    (F : ∀ (w : World) (mg : Str → Option Value) (fa : Addr) (h : Heap), (K w.params).In h → h.Ns mainGlobals mg → mg d.name = some (.ref fa) → ∃ fd : FuncData, (∀ (s : Shared) (u : Value), BindsTo s fd ⟨[u], []⟩ [(x, u)]) ∧
        ∀ base : Heap, (K w.params).In base → base.Ns mainGlobals mg → Fk l.prog w (K w.params) mg base k fa fd [x] (spN [] (K w.params) mg 1 g))
    (law : ∀ ns : List Int, ns.length ≤ n → ∃ S, g [.scr ns] [] = .ok (.d (.bool true)) S) : PySem.W.WalkO q loose XP YP l.row.toRowW d [] (fun f vs => PySem.call f vs) := by
  refine Att.attach_call hn noDef fun w s₀ s₁ mg mb fa o pm cd doc a vs ns G Y ho hd hcd hmg hobj hints hlen hg => ?_
  have inK := hY w _ Y
  obtain ⟨fd, bind, hF⟩ := F w mg fa _ inK G.T.g hmg
  obtain ⟨S, e⟩ := law ns hlen
  have rv := vals_ints hints
  have at_ := fun {H : Hp} => law_at (H := H) inK G.T.g G.T.b G.T.builtins G.T.nolimit hg hobj (fun es ep z => by cases z) room hF bind
  have fin : ∀ {H : Hp} {F : Addr → Prop}, SG [] (K w.params) (fun _ => 0) F H [] → RepV (K w.params) mg (fun _ => 0) F H 0 (.ref a) (.scr ns) → spN [] (K w.params) mg 1 g [.ref a] H (fun v _ => v = .bl true) fun _ _ _ => False := fun {H F} sg r =>
    ⟨rfl, fun _ => 0, F, [.scr ns], [], sg, ⟨r, trivial⟩, by
      rw [e]
      intro φ' F' H' _ v r
      cases r
      rfl⟩
  cases hk : (K w.params).lookup a with
  | some ob =>
    have e1 := inK a ob hk
    rw [hobj] at e1
    cases e1
    refine at_ (H := fun _ => none) (fun b u z => by have z' : (none : Option HO) = some u := z; cases z') (fun b z => absurd rfl z) (fun z => absurd rfl z) (fin (F := fun _ => False) ⟨fun _ z => z.elim, fun i o z => by simp at z, fun i j z => by simp at z, fun _ z => by simp at z, fun _ z => by simp at z, fun _ _ z => (by cases z), fun _ _ _ z => (by cases z)⟩ ⟨a, rfl, .inr ⟨_, vs.toArray, _, hk, rfl, rfl, rfl, ?_, by simpa using rv⟩⟩)
    rw [List.size_toArray, hints.length]
    exact Nat.le_trans hlen hn2
  | none =>
    refine at_ (H := scriptH a { cls := .type "list", data := .seq vs.toArray } ns) (fun b u z => ?_) (fun b z => ?_) (fun _ => ⟨hk, _, scriptH_at⟩) (fin (F := fun b => b = a) ⟨fun b z => by rw [show b = a from z, scriptH_at]; simp, fun i o z => by simp at z, fun i j z => by simp at z, fun _ z => by simp at z, fun _ z => by simp at z, fun b ps z => by (by_cases e : b = a; (rw [e, scriptH_at] at z; cases z); (rw [show scriptH a _ ns b = none from if_neg e] at z; cases z)), fun b c q z => by (by_cases e : b = a; (exact e); (rw [show scriptH a _ ns b = none from if_neg e] at z; cases z))⟩ ⟨a, rfl, .inl ⟨rfl, _, scriptH_at⟩⟩)
    · by_cases hb : b = a
      · subst hb
        rw [scriptH_at] at z
        cases z
        exact ⟨hobj, by rw [List.length_map]; exact Nat.le_trans hlen hn2, vs, _, rv, hobj⟩
      · rw [show scriptH a _ ns b = none from if_neg hb] at z
        cases z
    · by_cases hb : b = a
      · exact hb
      · exact absurd (if_neg hb) z
structure DefF (K : PySem.W.Frag) (mg : Str → Option Value) (x y : Str) (st : Stmt) : Prop where
  ex : ∃ (f : Addr) (oc : Value) (od : Option Addr) (kV doc pm : Value) (an : Option Addr) (cdv ct : Value) (osl : Array (Option Value)), mg x = some (.ref f) ∧
    K.lookup f = some ⟨oc, od, .func (PySem.W.fnOf y y (defArgs st) (defBody st) (defScope st) .none kV doc pm an cdv ct), osl⟩ ∧ PySem.W.codeIn K cdv y = true ∧ PySem.W.keepIn K (.ref f) = true
theorem DefF.mk' {K : PySem.W.Frag} {mg : Str → Option Value} {x y : Str} {st : Stmt} {h : Heap} {f : Addr} {oc : Value} {od : Option Addr} {kV doc pm : Value} {an : Option Addr} {cdv ct : Value} {osl : Array (Option Value)} (X : K.In h) (G : h.Ns mainGlobals mg) (a : PySem.W.nsIn K mainGlobals x = some (some (.ref f)))
    (l : K.lookup f = some ⟨oc, od, .func (PySem.W.fnOf y y (defArgs st) (defBody st) (defScope st) .none kV doc pm an cdv ct), osl⟩) (c : PySem.W.codeIn K cdv y = true) (k : PySem.W.keepIn K (.ref f) = true) : DefF K mg x y st :=
  ⟨f, oc, od, kV, doc, pm, an, cdv, ct, osl, PySem.W.mg_of X G a, l, c, k⟩
structure ExF (K : PySem.W.Frag) (mg : Str → Option Value) (x : Str) : Prop where
  ex : ∃ C : Addr, mg x = some (.ref C) ∧ PySem.W.excIn K C He.veBase "ValueError.__new__" = true ∧ PySem.W.keepIn K (.ref C) = true ∧ PySem.W.subIn K (.ref C) (.type "BaseException") = some true ∧ PySem.W.typeIn K (.ref C) = some (.type "type")
theorem ExF.mk' {K : PySem.W.Frag} {mg : Str → Option Value} {x : Str} {h : Heap} {C : Addr} (X : K.In h) (G : h.Ns mainGlobals mg) (a : PySem.W.nsIn K mainGlobals x = some (some (.ref C))) (b : PySem.W.excIn K C He.veBase "ValueError.__new__" = true) (c : PySem.W.keepIn K (.ref C) = true)
    (d : PySem.W.subIn K (.ref C) (.type "BaseException") = some true) (e : PySem.W.typeIn K (.ref C) = some (.type "type")) : ExF K mg x := ⟨C, PySem.W.mg_of X G a, b, c, d, e⟩
structure DefOk (τ : Tb) (P : Program) (w : World) (K : PySem.W.Frag) (mg : Str → Option Value) (base : Heap) (k n : Nat) (x : Str) (g : Fn) : Prop where
  ex : ∃ (f : Addr) (fd : FuncData) (ps : List Str), Fk P w K mg base k f fd ps (spN τ K mg n g) ∧ mg x = some (.ref f) ∧ PySem.W.keepIn K (.ref f) = true ∧ Binds K fd ps []
section
variable {P : Program} {w : World} {K : PySem.W.Frag} {mg : Str → Option Value} {base : Heap}
theorem def_ok {x y : Str} {st : Stmt} {N ps : List Str} {k n : Nat} {b : Sv} (Fu : DefF K mg x y st) (Sc : FnScope N ps (defScope st)) (hn : ps.length = n)
    (bi : ∀ (kV doc pm : Value) (an : Option Addr) (cdv ct : Value) (us : List Value), us.length = ps.length → bindArgs (PySem.W.fnOf y y (defArgs st) (defBody st) (defScope st) .none kV doc pm an cdv ct) ⟨us, []⟩ = pure (ps.zip us))
    (body : ∀ (f : Addr) (cdv : Value) (B : Around) (fs : List PySem.Env) (s : Shared) (H : Hp) (E : XK), Cc (cxD P w K mg base N y st f cdv B fs s H E) (wD E) k → DB τ (cxD P w K mg base N y st f cdv B fs s H E) (wD E) (defBody st) b) :
    DefOk τ P w K mg base (k + 1) n x (fnOf N.length b) := by
  obtain ⟨f, oc, od, kV, doc, pm, an, cdv, ct, osl, h1, h2, h3, h4⟩ := Fu.ex
  have F := fun_mk (st := st) h2 h3 h4
  subst hn
  exact ⟨f, _, ps, fk_fn F Sc (body f), h1, h4, F.binds bi⟩
end
section
variable {X : Cx} {W : WX} {k j n : Nat} {a b c e : Expr} {es : List Expr} {fs : Av} {g : Fn} {pos p : Pos} {x : Str}
theorem de_callD (G : DefOk τ X.prog X.w X.K X.mg X.base k n x g) (cc : Cc X W j) (hj : k ≤ j) (hg : Gl X x) (ha : DA τ X W (e :: es) fs) (hdb : (x == ("__debug__" : Str)) = false := by decide) (he : starEach (e :: es) X.env = (false, eval e X.env) :: starEach es X.env := by rfl)
    (hpl : (backTo pos (starEach es X.env)).any (·.1) = false := by rfl) : DE τ X W (.Call (.Name x p) (e :: es) [] pos) (eCallN n g fs) := by
  obtain ⟨f, fd, ps, h1, h2, h3, h4⟩ := G.ex
  exact de_call cc h1 hj hg h2 h3 h4 ha hdb he hpl
theorem de_callD0 (G : DefOk τ X.prog X.w X.K X.mg X.base k n x g) (cc : Cc X W j) (hj : k ≤ j) (hg : Gl X x) (hdb : (x == ("__debug__" : Str)) = false := by decide) : DE τ X W (.Call (.Name x p) [] [] pos) (eCall0 n g) := by
  obtain ⟨f, fd, ps, h1, h2, h3, h4⟩ := G.ex
  exact de_call0 cc h1 hj hg h2 h3 h4 hdb
theorem pmk0 {C : Addr} {bmB : List Value} {B newId initId : String} (F : ExcBaseFacts B newId initId bmB) (q : PySem.W.excIn X.K C bmB newId = true) (gC : X.mg x = some (.ref C)) (kC : PySem.W.keepIn X.K (.ref C) = true) (r : Raises X (.ref C)) (hg : Gl X x)
    (hdb : (x == ("__debug__" : Str)) = false := by decide) : PMk X (.Call (.Name x p) [] [] pos) (fun _ H Q => Q (.ref C) none H) := by
  intro pins s σ H Q I h
  refine wpAny_Call_Name_kw (ld_glob I hg gC ?_ hdb)
  refine PySem.W.callWith_K0 I.kIn kC ?_
  show wpAny _ _ (call (.ref C) []) _ _ _
  obtain ⟨bm, N, nm, qn, bs, hdct, sn, sub, ab, col, dd, k0, k1, k2, k3, k5, mN, hC, hN, hni, T⟩ := exc_obj I.kIn q
  refine wpAny_call_exc_subT F T hC hN hni (fun h' e hm => ?_) (by show 0 ≤ sizeLine; rw [sizeLine_eq]; omega)
  exact mk_of I hm r h (I.hok.gone hm.new)
theorem ds_raise0 {pos2 : Pos} (cc : Cc X W j) (Ex : ExF X.K X.mg x) (hg : Gl X x) (hdb : (x == ("__debug__" : Str)) = false := by decide) : DS τ X W (.Raise (some (.Call (.Name x p) [] [] pos)) none pos2) (sRaise x) := by
  obtain ⟨C, h1, h2, h3, h4, h5⟩ := Ex.ex
  exact ds_raise cc h1 (pmk0 PySem.F.excBase_ValueError h2 h1 h3 (raises_own h4 h5) hg hdb)
end
theorem Cc.hu {X : Cx} {W : WX} {k : Nat} (c : Cc X W k) : X.A.units + 64 < cLine := by
  have := c.rm.units
  omega
structure IntF (mg : Str → Option Value) (x : Str) (i : Int) : Prop where
  ex : ∃ t, mg x = some (.int i t)
structure StrF (mg : Str → Option Value) (x : Str) (z : Str) : Prop where
  ex : ∃ t, mg x = some (.str z t)
section
variable {K : PySem.W.Frag} {mg : Str → Option Value} {h : Heap} {x : Str}
theorem IntF.mk' {i : Int} {t : Tok} (X : K.In h) (G : h.Ns mainGlobals mg) (a : PySem.W.nsIn K mainGlobals x = some (some (.int i t))) : IntF mg x i := ⟨t, PySem.W.mg_of X G a⟩
theorem StrF.mk' {i : Str} {t : Tok} (X : K.In h) (G : h.Ns mainGlobals mg) (a : PySem.W.nsIn K mainGlobals x = some (some (.str i t))) : StrF mg x i := ⟨t, PySem.W.mg_of X G a⟩
end
theorem de_conI {X : Cx} {W : WX} {x : Str} {i : Int} {pos : Pos} (C : IntF X.mg x i) (hg : Gl X x) (hd : (x == ("__debug__" : Str)) = false := by decide) : DE τ X W (.Name x pos) (eD (.int i)) := by
  obtain ⟨t, e⟩ := C.ex
  exact de_con (v := .int i) hg e ⟨t, rfl⟩ (fun _ _ => .int i) hd
theorem de_conS {X : Cx} {W : WX} {x : Str} {i : Str} {pos : Pos} (C : StrF X.mg x i) (hg : Gl X x) (hd : (x == ("__debug__" : Str)) = false := by decide) : DE τ X W (.Name x pos) (eD (.str i)) := by
  obtain ⟨t, e⟩ := C.ex
  exact de_con (v := .str i) hg e ⟨t, rfl⟩ (fun _ _ => .str i) hd
theorem law_end {P : Program} {w : World} {K : PySem.W.Frag} {mg : Str → Option Value} {st : Stmt} {N : List Str} {fa : Addr} {x y : Str} {k : Nat} {b : Sv} {p : Str} (Fu : DefF K mg x y st) (hfa : mg x = some (.ref fa)) (Sc : FnScope N [p] (defScope st))
    (bi : ∀ (kV doc pm : Value) (an : Option Addr) (cdv ct : Value) (s : Shared) (v : Value), BindsTo s (PySem.W.fnOf y y (defArgs st) (defBody st) (defScope st) .none kV doc pm an cdv ct) ⟨[v], []⟩ [(p, v)])
    (body : ∀ (base : Heap) (f : Addr) (cdv : Value) (B : Around) (fs : List PySem.Env) (s : Shared) (H : Hp) (E : XK), Cc (cxD P w K mg base N y st f cdv B fs s H E) (wD E) k → DB τ (cxD P w K mg base N y st f cdv B fs s H E) (wD E) (defBody st) b) :
    ∃ fd : FuncData, (∀ (s : Shared) (u : Value), BindsTo s fd ⟨[u], []⟩ [(p, u)]) ∧ ∀ base : Heap, K.In base → base.Ns mainGlobals mg → Fk P w K mg base (k + 1) fa fd [p] (spN τ K mg 1 (fnOf N.length b)) := by
  obtain ⟨f, oc, od, kV, doc, pm, an, cdv, ct, osl, h1, h2, h3, h4⟩ := Fu.ex
  have e := hfa.symm.trans h1
  cases e
  exact ⟨_, bi kV doc pm an cdv ct, fun base _ _ => fk_fn (fun_mk (st := st) h2 h3 h4) Sc (body base fa)⟩
theorem bb_len : bootBuiltins "len" = some (.builtin "len") := by decide +kernel
theorem bb_abs : bootBuiltins "abs" = some (.builtin "abs") := by decide +kernel
theorem bb_all : bootBuiltins "all" = some (.builtin "all") := by decide +kernel
theorem bb_any : bootBuiltins "any" = some (.builtin "any") := by decide +kernel
theorem bb_min : bootBuiltins "min" = some (.builtin "min") := by decide +kernel
theorem bb_max : bootBuiltins "max" = some (.builtin "max") := by decide +kernel
theorem bb_sum : bootBuiltins "sum" = some (.builtin "sum") := by decide +kernel
theorem bb_sorted : bootBuiltins "sorted" = some (.builtin "sorted") := by decide +kernel
theorem bb_repr : bootBuiltins "repr" = some (.builtin "repr") := by decide +kernel
theorem bb_isinstance : bootBuiltins "isinstance" = some (.builtin "isinstance") := by decide +kernel
theorem bb_enumerate : bootBuiltins "enumerate" = some (.type "enumerate") := by decide +kernel
theorem bb_zip : bootBuiltins "zip" = some (.type "zip") := by decide +kernel
theorem bb_range : bootBuiltins "range" = some (.type "range") := by decide +kernel
theorem bb_int : bootBuiltins "int" = some (.type "int") := by decide +kernel
theorem bb_bool : bootBuiltins "bool" = some (.type "bool") := by decide +kernel
theorem bb_str : bootBuiltins "str" = some (.type "str") := by decide +kernel
theorem bb_list : bootBuiltins "list" = some (.type "list") := by decide +kernel
theorem bb_tuple : bootBuiltins "tuple" = some (.type "tuple") := by decide +kernel
theorem bb_dict : bootBuiltins "dict" = some (.type "dict") := by decide +kernel
theorem bb_set : bootBuiltins "set" = some (.type "set") := by decide +kernel
section
variable {ρ : Env} {S : Store} {i n : Nat} {m : Bool} {fa fb fc f g : Ev} {ga gb t : Tv} {fs : Av} {o o' : Vl → Vl → Store → Res Vl} {u : Vl → Store → Res Vl} {k : Fn} {sa sb : Sv} {it : Iv} {tg : Tg}
@[simp] theorem ap_eVar : eVar i ρ S = match ρ[i]? with
  | some (some v) => .ok v S
  | _ => .bad := rfl
@[simp] theorem ap_eD {x : D} : eD x ρ S = .ok (.d x) S := rfl
@[simp] theorem ap_eTy {x : Ty} : eTy x ρ S = .ok (.ty x) S := rfl
@[simp] theorem ap_eGlo {x : Str} : eGlo x ρ S = .ok (.glo x) S := rfl
@[simp] theorem ap_eBin : eBin o fa fb ρ S = (fa ρ S).bind fun a S1 => (fb ρ S1).bind fun b S2 => o a b S2 := rfl
@[simp] theorem ap_eUn : eUn u fa ρ S = (fa ρ S).bind fun a S1 => u a S1 := rfl
@[simp] theorem ap_aNil : aNil ρ S = .ok [] S := rfl
@[simp] theorem ap_aCons : aCons f fs ρ S = (f ρ S).bind fun v S1 => (fs ρ S1).bind fun vs S2 => .ok (v :: vs) S2 := rfl
@[simp] theorem ap_eFrz : eFrz f ρ S = (f ρ S).bind fun v S1 => (fr v S1).bind fun d S2 => .ok (.d d) S2 := rfl
@[simp] theorem ap_eTup : eTup fs ρ S = (fs ρ S).bind fun vs S1 => (frs vs S1).bind fun ds S2 => if ds.length ≤ 1000 then .ok (.d (.tuple ds)) S2 else .bad := rfl
@[simp] theorem ap_eLst : eLst m fs ρ S = (fs ρ S).bind fun vs S1 => (frs vs S1).bind fun ds S2 => if ds.length ≤ 1000 then mkL m ds S2 else .bad := rfl
@[simp] theorem ap_eCall : eCall k fs ρ S = (fs ρ S).bind fun vs S1 => k vs S1 := rfl
@[simp] theorem ap_eCallN : eCallN n k fs ρ S = (fs ρ S).bind fun vs S1 => if vs.length = n then k vs S1 else .bad := rfl
@[simp] theorem ap_eCall0 : eCall0 n k ρ S = if n = 0 then k [] S else .bad := rfl
@[simp] theorem ap_eIf : eIf t fa fb ρ S = (t ρ S).bind fun b S1 => if b = true then fa ρ S1 else fb ρ S1 := rfl
@[simp] theorem ap_eAnd : eAnd fa fb ρ S = (fa ρ S).bind fun v S1 => match v with
  | .d (.bool c) => if c = true then fb ρ S1 else .ok (.d (.bool false)) S1
  | _ => .bad := rfl
@[simp] theorem ap_eOr : eOr fa fb ρ S = (fa ρ S).bind fun v S1 => match v with
  | .d (.bool c) => if c = true then .ok (.d (.bool true)) S1 else fb ρ S1
  | _ => .bad := rfl
@[simp] theorem ap_eNot : eNot fa ρ S = (fa ρ S).bind fun v S1 => match v with
  | .d (.bool c) => .ok (.d (.bool !c)) S1
  | _ => .bad := rfl
@[simp] theorem ap_tOf : tOf f ρ S = (f ρ S).bind fun v S1 => match v with
  | .d (.bool c) => .ok c S1
  | _ => .bad := rfl
@[simp] theorem ap_tAnd : tAnd ga gb ρ S = (ga ρ S).bind fun c S1 => if c = true then gb ρ S1 else .ok false S1 := rfl
@[simp] theorem ap_tOr : tOr ga gb ρ S = (ga ρ S).bind fun c S1 => if c = true then .ok true S1 else gb ρ S1 := rfl
@[simp] theorem ap_tNot : tNot ga ρ S = (ga ρ S).bind fun c S1 => .ok (!c) S1 := rfl
@[simp] theorem ap_tYesD : tYesD ρ S = .ok true S := rfl
@[simp] theorem ap_eChain : eChain o o' fa fb fc ρ S = (fa ρ S).bind fun a S1 => (fb ρ S1).bind fun b S2 => (o a b S2).bind fun z S3 => match z with
  | .d (.bool k) => if k = true then (fc ρ S3).bind fun c S4 => o' b c S4 else .ok (.d (.bool false)) S3
  | _ => .bad := rfl
@[simp] theorem ap_pNo : pNo ρ S = .ok none S := rfl
@[simp] theorem ap_pAt : pAt f ρ S = (f ρ S).bind fun v S1 => match view S1 v with
  | some (.int i) => .ok (some i) S1
  | _ => .bad := rfl
@[simp] theorem ap_eSl {l h : Pv} : eSl m f l h ρ S = (f ρ S).bind fun v S1 => (l ρ S1).bind fun l S2 => (h ρ S2).bind fun h S3 => slV m v l h S3 := rfl
@[simp] theorem ap_eLc {vs : List Nat} : eLc m it tg t f vs ρ S = (it ρ S).bind fun ds S1 => (lcL tg t f (wipeE ρ vs) ds [] S1).bind fun acc S2 => mkL m acc S2 := rfl
@[simp] theorem ap_iSeq : iSeq f ρ S = (f ρ S).bind fun v S1 => (fr v S1).bind fun d S2 => match seqOf d with
  | some ds => .ok ds S2
  | none => .bad := rfl
@[simp] theorem ap_sNil : sNil ρ S = .nx ρ S := rfl
@[simp] theorem ap_sCons : sCons sa sb ρ S = (sa ρ S).seq sb := rfl
@[simp] theorem ap_sExpr : sExpr f ρ S = (f ρ S).st ρ fun _ S1 => .nx ρ S1 := rfl
@[simp] theorem ap_sAsg : sAsg tg f ρ S = (f ρ S).st ρ fun v S1 => match tg v ρ with
  | some ρ1 => .nx ρ1 S1
  | none => .bad := rfl
@[simp] theorem ap_sSet : sSet i f ρ S = (f ρ S).st ρ fun v S1 => .nx (ρ.set i (some v)) S1 := rfl
@[simp] theorem ap_sPar {gs : List Tg} : sPar gs fs ρ S = (fs ρ S).st ρ fun vs S1 => match gAll gs vs ρ with
  | some ρ1 => .nx ρ1 S1
  | none => .bad := rfl
@[simp] theorem ap_sRet : sRet f ρ S = (f ρ S).st ρ fun v S1 => .ret v S1 := rfl
@[simp] theorem ap_sRetN : sRetN ρ S = .ret (.d .none) S := rfl
@[simp] theorem ap_sIf : sIf t sa sb ρ S = (t ρ S).st ρ fun x S1 => if x = true then sa ρ S1 else sb ρ S1 := rfl
@[simp] theorem ap_sPut : sPut fa fb fc ρ S = (fc ρ S).st ρ fun v S1 => (fr v S1).st ρ fun d S2 => (fa ρ S2).st ρ fun o S3 => (fb ρ S3).st ρ fun i S4 => match o, view S4 i with
  | .loc n, some (.int k) => match S4[n]? with
    | some (.lst xs) => match ixN xs.length k with
      | some j => .nx ρ (S4.set n (.lst (xs.set j d)))
      | none => .bad
    | _ => .bad
  | _, _ => .bad := rfl
@[simp] theorem ap_sBreak : sBreak ρ S = .bk ρ S := rfl
@[simp] theorem ap_sCont : sCont ρ S = .ct ρ S := rfl
@[simp] theorem ap_sFor : sFor it tg sb ρ S = (it ρ S).st ρ fun xs S1 => forL tg sb xs ρ S1 := rfl
@[simp] theorem ap_sRaise {x : Str} : sRaise x ρ S = .ex ⟨x, []⟩ ρ S := rfl
@[simp] theorem ap_gN {v : Vl} : gN i v ρ = some (ρ.set i (some v)) := rfl
@[simp] theorem ap_gAll0 : gAll [] [] ρ = some ρ := rfl
@[simp] theorem ap_gAll1 {gs : List Tg} {v : Vl} {vs : List Vl} : gAll (tg :: gs) (v :: vs) ρ = match tg v ρ with
  | some ρ1 => gAll gs vs ρ1
  | none => none := rfl
@[simp] theorem ap_gT {gs : List Tg} {ds : List D} : gT gs (.d (.tuple ds)) ρ = gAll gs (ds.map Vl.d) ρ := rfl
@[simp] theorem ap_mkF {ds : List D} : mkL false ds S = .ok (.d (.list ds)) S := rfl
@[simp] theorem ap_mkT {ds : List D} : mkL true ds S = .ok (.loc S.length) (S ++ [.lst ds]) := rfl
@[simp] theorem ap_forL0 : forL tg sb [] ρ S = .nx ρ S := rfl
theorem ap_forL1 {x : D} {xs : List D} : forL tg sb (x :: xs) ρ S = match tg (.d x) ρ with
    | none => .bad
    | some ρ1 => match sb ρ1 S with
      | .nx ρ2 S2 => forL tg sb xs ρ2 S2
      | .ct ρ2 S2 => forL tg sb xs ρ2 S2
      | .bk ρ2 S2 => .nx ρ2 S2
      | r => r := rfl
@[simp] theorem ap_lcL0 {acc : List D} : lcL tg t f ρ [] acc S = .ok acc S := rfl
theorem ap_fnOf {vs : List Vl} : fnOf n sb vs S = match sb (vs.map some ++ List.replicate (n - vs.length) none) S with
  | .ret v S1 => leave S.length v S1
  | .nx _ S1 => .ok (.d .none) (S1.take S.length)
  | .ex e _ S1 => .ex e (S1.take S.length)
  | _ => .bad := rfl
@[simp] theorem ap_leave {x : D} : leave n (.d x) S = .ok (.d x) (S.take n) := rfl
@[simp] theorem shal_int {i : Int} : shal (.int i) = true := rfl
@[simp] theorem shal_bool {b : Bool} : shal (.bool b) = true := rfl
@[simp] theorem shal_none : shal .none = true := rfl
@[simp] theorem shal_str {z : Str} : shal (.str z) = true := rfl
end
theorem forL_inv {tg : Tg} {sb : Sv} (I : List D → Env → Store → Prop) (step : ∀ x xs ρ S, I (x :: xs) ρ S → ∃ ρ1 ρ2 S2, tg (.d x) ρ = some ρ1 ∧ (sb ρ1 S = .nx ρ2 S2 ∨ sb ρ1 S = .ct ρ2 S2) ∧ I xs ρ2 S2) :
    ∀ xs ρ S, I xs ρ S → ∃ ρ2 S2, forL tg sb xs ρ S = .nx ρ2 S2 ∧ I [] ρ2 S2
  | [], ρ, S, h => ⟨ρ, S, rfl, h⟩
  | x :: xs, ρ, S, h => by
    obtain ⟨ρ1, ρ2, S2, e1, e2, h2⟩ := step x xs ρ S h
    obtain ⟨ρ3, S3, e3, h3⟩ := forL_inv I step xs ρ2 S2 h2
    refine ⟨ρ3, S3, ?_, h3⟩
    rw [ap_forL1, e1]
    rcases e2 with e2 | e2 <;> simp only [e2] <;> exact e3
theorem lcL_all {tg : Tg} {f : Ev} {ρ : Env} (g : D → D) {S : Store} : ∀ (xs acc : List D), (∀ x ∈ xs, ∃ ρ1, tg (.d x) ρ = some ρ1 ∧ f ρ1 S = .ok (.d (g x)) S) → acc.length + xs.length ≤ 1000 → lcL tg tYesD f ρ xs acc S = .ok (acc ++ xs.map g) S
  | [], acc, _, _ => by simp
  | x :: xs, acc, h, hl => by
    obtain ⟨ρ1, e1, e2⟩ := h x (by simp)
    have hl' : acc.length + (xs.length + 1) ≤ 1000 := hl
    have ih := lcL_all g (S := S) xs (acc ++ [g x]) (fun y hy => h y (by simp [hy])) (by simp; omega)
    have hs : acc.length < sizeLine := Nat.lt_of_lt_of_le (by omega) (line1000 (Nat.le_refl 1000))
    unfold lcL
    simp only [e1, ap_tYesD, noX_ok, bind_ok, if_true, e2, fr_d, hs]
    rw [ih]
    simp
section
variable {S : Store} {m neg : Bool} {i j : Int} {xs : List D} {x y z u v w : D} {a b : Bool}
@[simp] theorem oAdd_int : oAdd m (.d (.int i)) (.d (.int j)) S = .ok (.d (.int (i + j))) S := rfl
@[simp] theorem oSub_int : oSub (.d (.int i)) (.d (.int j)) S = .ok (.d (.int (i - j))) S := rfl
theorem oMul_int (h : mulOk i j = true) : oMul m (.d (.int i)) (.d (.int j)) S = .ok (.d (.int (i * j))) S := by simp [oMul, h]
theorem oDiv_int (h : 0 < j) (h2 : j < 2 ^ 4000) : oDiv (.d (.int i)) (.d (.int j)) S = .ok (.d (.int (i / j))) S := by simp only [oDiv, view_d, h, h2, and_self, if_true]
theorem oMod_int (h : 0 < j) : oMod (.d (.int i)) (.d (.int j)) S = .ok (.d (.int (i % j))) S := by simp only [oMod, view_d, h, if_true]
@[simp] theorem oNeg_int : oNeg (.d (.int i)) S = .ok (.d (.int (-i))) S := rfl
@[simp] theorem oLt_int : oLt (.d (.int i)) (.d (.int j)) S = .ok (.d (.bool (decide (i < j)))) S := rfl
@[simp] theorem oGt_int : oGt (.d (.int i)) (.d (.int j)) S = .ok (.d (.bool (decide (j < i)))) S := rfl
@[simp] theorem oLe_int : oLe (.d (.int i)) (.d (.int j)) S = .ok (.d (.bool (decide (i ≤ j)))) S := rfl
@[simp] theorem oGe_int : oGe (.d (.int i)) (.d (.int j)) S = .ok (.d (.bool (decide (j ≤ i)))) S := rfl
@[simp] theorem eqv_int : PyData.eqv (.int i) (.int j) = decide (i = j) := by
  rw [Bool.eq_iff_iff]
  simp [PyData.eqv]
@[simp] theorem eqv_bool : PyData.eqv (.bool a) (.bool b) = decide (a = b) := by cases a <;> cases b <;> simp [PyData.eqv]
@[simp] theorem oEq_int : oEq (.d (.int i)) (.d (.int j)) S = .ok (.d (.bool (decide (i = j)))) S := by simp [oEq]
@[simp] theorem oNe_int : oNe (.d (.int i)) (.d (.int j)) S = .ok (.d (.bool (!decide (i = j)))) S := by simp [oNe]
@[simp] theorem oEq_bool : oEq (.d (.bool a)) (.d (.bool b)) S = .ok (.d (.bool (decide (a = b)))) S := by simp [oEq]
@[simp] theorem oNe_bool : oNe (.d (.bool a)) (.d (.bool b)) S = .ok (.d (.bool (!decide (a = b)))) S := by simp [oNe]
@[simp] theorem oIs_bool : oIs neg (.d (.bool a)) (.d (.bool b)) S = .ok (.d (.bool (if neg = true then !decide (a = b) else decide (a = b)))) S := rfl
@[simp] theorem fInt_int : fInt [.d (.int i)] S = .ok (.d (.int i)) S := rfl
@[simp] theorem fInt_bool : fInt [.d (.bool a)] S = .ok (.d (.int (if a then 1 else 0))) S := rfl
@[simp] theorem fAbs_int : fAbs [.d (.int i)] S = .ok (.d (.int (i.natAbs : Int))) S := by
  simp only [fAbs, view_d]
  split <;> first | rfl | skip
  all_goals simp_all
  all_goals omega
@[simp] theorem fMax2_int : fMax2 [.d (.int i), .d (.int j)] S = .ok (.d (.int (max i j))) S := by
  simp only [fMax2, view_d]
  congr 3
  omega
@[simp] theorem fMin2_int : fMin2 [.d (.int i), .d (.int j)] S = .ok (.d (.int (min i j))) S := by
  simp only [fMin2, view_d]
  congr 3
  omega
@[simp] theorem fLen_list : fLen [.d (.list xs)] S = .ok (.d (.int xs.length)) S := rfl
@[simp] theorem fLen_tuple : fLen [.d (.tuple xs)] S = .ok (.d (.int xs.length)) S := rfl
theorem atI_nat {α : Type} {xs : List α} {n : Nat} : atI xs (n : Int) = xs[n]? := by
  cases h : xs[n]? with
  | some x => exact L2.atI_nat h
  | none =>
    unfold atI ixN
    have : xs.length ≤ n := by simpa using h
    have h2 : ¬ (n < xs.length) := by omega
    simp [h2]
@[simp] theorem atI_0 {α : Type} {x : α} {xs : List α} : atI (x :: xs) 0 = some x := atI_nat (n := 0)
@[simp] theorem atI_1 {α : Type} {x y : α} {xs : List α} : atI (x :: y :: xs) 1 = some y := atI_nat (n := 1)
@[simp] theorem atI_2 {α : Type} {x y z : α} {xs : List α} : atI (x :: y :: z :: xs) 2 = some z := atI_nat (n := 2)
@[simp] theorem atI_3 {α : Type} {x y z u : α} {xs : List α} : atI (x :: y :: z :: u :: xs) 3 = some u := atI_nat (n := 3)
@[simp] theorem atI_4 {α : Type} {x y z u v : α} {xs : List α} : atI (x :: y :: z :: u :: v :: xs) 4 = some v := atI_nat (n := 4)
@[simp] theorem oIx_list : oIx (.d (.list xs)) (.d (.int i)) S = oPost (atI xs i) S := rfl
@[simp] theorem oIx_tuple : oIx (.d (.tuple xs)) (.d (.int i)) S = oPost (atI xs i) S := rfl
@[simp] theorem oPost_some {d : D} : oPost (some d) S = .ok (.d d) S := rfl
theorem oIx_loc {n : Nat} (h : S[n]? = some (.lst xs)) : oIx (.loc n) (.d (.int i)) S = oPost (atI xs i) S := by simp [oIx, view, h]
end
theorem mulOk_l {i j : Int} (h : i.natAbs < 2 ^ 64) : mulOk i j = true := by simp [mulOk, h]
theorem mulOk_r {i j : Int} (h : j.natAbs < 2 ^ 64) : mulOk i j = true := by simp [mulOk, h]
theorem mulOk_w {i j : Int} (h : i.natAbs < 2 ^ 4000) (h2 : j.natAbs < 2 ^ 4000) : mulOk i j = true := by unfold mulOk; rw [decide_eq_true h, decide_eq_true h2]; simp
def Bd (n : Nat) (i : Int) : Prop := i.natAbs < 2 ^ n
theorem Bd.mono {n m : Nat} {i : Int} (h : Bd n i) (hm : n ≤ m) : Bd m i := Nat.lt_of_lt_of_le h (Nat.pow_le_pow_right (by decide) hm)
theorem Bd.mul {n m : Nat} {i j : Int} (h : Bd n i) (h2 : Bd m j) : Bd (n + m) (i * j) := by
  unfold Bd at *
  rw [Int.natAbs_mul, Nat.pow_add]
  exact Nat.mul_lt_mul'' h h2
theorem Bd.add {n : Nat} {i j : Int} (h : Bd n i) (h2 : Bd n j) : Bd (n + 1) (i + j) := by
  unfold Bd at *
  rw [Nat.pow_succ]
  omega
theorem Bd.sub {n : Nat} {i j : Int} (h : Bd n i) (h2 : Bd n j) : Bd (n + 1) (i - j) := by
  unfold Bd at *
  rw [Nat.pow_succ]
  omega
theorem Bd.ok {n m : Nat} {i j : Int} (h : Bd n i) (h2 : Bd m j) (hn : n ≤ 4000) (hm : m ≤ 4000) : mulOk i j = true := mulOk_w (h.mono hn) (h2.mono hm)
theorem Bd.lt {n : Nat} {i : Int} (h : Bd n i) (hn : n ≤ 4000) : i < 2 ^ 4000 := by
  have q : i.natAbs < 2 ^ 4000 := h.mono hn
  have e : ((2 ^ 4000 : Nat) : Int) = 2 ^ 4000 := by norm_cast
  rw [← e]
  omega
theorem Bd.of {n : Nat} {i : Int} (h : i.natAbs < 2 ^ n) : Bd n i := h
def hand (cs : List Int) (p z s n : Int) : MO := .lst [.list (cs.map .int), .int p, .int z, .int s, .int n]
structure HandOk (cs : List Int) (p z s n : Int) : Prop where
  cs : ∀ c ∈ cs, 0 ≤ c
  p : 0 ≤ p
  z : 0 ≤ z
  s : 0 ≤ s
  n : 0 ≤ n
def Hand (S : Store) : Prop := ∃ cs p z s n, HandOk cs p z s n ∧ S = [hand cs p z s n]
def DrawOk (g : Fn) : Prop := ∀ (size : Int) (S : Store), 0 < size → size < 2 ^ 62 → Hand S → ∃ r S', 0 ≤ r ∧ r < size ∧ Hand S' ∧ g [.loc 0, .d (.int size)] S = .ok (.d (.int r)) S'
def absD : D → D
  | .int i => .int (i.natAbs : Int)
  | d => d
theorem cut63 {ns : List Int} (h : ns.length ≤ 63) : cutD (ns.map PyData.int) none (some 63) = ns.map PyData.int := by
  apply cutD_whole
  rw [HT.sIx_none, show HT.sIx (ns.map PyData.int).length (ns.map PyData.int).length (some 63) = min 63 (ns.map PyData.int).length from HT.sIx_nat _ _ 63]
  refine ⟨rfl, ?_⟩
  rw [List.length_map]
  omega
def IsHand (m : MO) : Prop := ∃ cs p z s n, HandOk cs p z s n ∧ m = hand cs p z s n
def DrawR (g : Fn) : Prop := ∀ (size : Int) (m : MO) (R : Store), 0 < size → size < 2 ^ 62 → IsHand m → ∃ r m', 0 ≤ r ∧ r < size ∧ IsHand m' ∧ g [.loc 0, .d (.int size)] (m :: R) = .ok (.d (.int r)) (m' :: R)
structure Rp (n k : Nat) (d : D) : Prop where
  pl : d.plain = true
  dp : d.depth ≤ k
  sh : d.showable = true
  len : d.shown.length ≤ n
theorem Rp.mono {n m k j : Nat} {d : D} (h : Rp n k d) (h1 : n ≤ m) (h2 : k ≤ j) : Rp m j d := ⟨h.pl, Nat.le_trans h.dp h2, h.sh, Nat.le_trans h.len h1⟩
theorem rp_none : Rp 4 0 .none := ⟨rfl, Nat.le_refl _, rfl, Nat.le_refl _⟩
theorem rp_bool (b : Bool) : Rp 5 0 (.bool b) := ⟨rfl, Nat.le_refl _, rfl, by cases b <;> decide⟩
theorem rp_int {i : Int} (h : Bd 1900 i) : Rp 1921 0 (.int i) := by
  have hl : i.natAbs.log2 < 1920 := by
    have : i.natAbs.log2 ≤ 1900 := log2_lt h
    omega
  exact ⟨rfl, Nat.le_refl _, by simp only [PyData.showable, decide_eq_true_eq]; exact hl, PyProof.Rows.int_text_len_1921 hl⟩
theorem rps_pl {n k : Nat} : ∀ {ds : List D}, (∀ d ∈ ds, Rp n k d) → PyData.plainAll ds = true ∧ PyData.depthAll ds ≤ k ∧ PyData.showableAll ds = true ∧ ((PyData.shownAll ds).map (·.length)).sum ≤ n * ds.length ∧ (PyData.shownAll ds).length = ds.length
  | [], _ => by simp [PyData.plainAll, PyData.depthAll, PyData.showableAll, PyData.shownAll]
  | d :: ds, h => by
    have h1 := h d (by simp)
    obtain ⟨a, b, c, e, f⟩ := rps_pl (ds := ds) fun x hx => h x (by simp [hx])
    refine ⟨by simp [PyData.plainAll, h1.pl, a], ?_, by simp [PyData.showableAll, h1.sh, c], ?_, by simp [PyData.shownAll, f]⟩
    · simp only [PyData.depthAll]
      exact Nat.max_le.mpr ⟨h1.dp, b⟩
    · simp only [PyData.shownAll, List.map_cons, List.sum_cons, List.length_cons, Nat.mul_add, Nat.mul_one]
      have := h1.len
      omega
theorem rp_list {n k : Nat} {ds : List D} (h : ∀ d ∈ ds, Rp n k d) : Rp ((n + 2) * ds.length + 3) (k + 1) (.list ds) := by
  obtain ⟨a, b, c, e, f⟩ := rps_pl h
  refine ⟨by simp [PyData.plain, a], by simp only [PyData.depth]; omega, by simp [PyData.showable, c], ?_⟩
  have := listText_len_le (PyData.shownAll ds)
  simp only [PyData.shown, Nat.add_mul]
  omega
theorem rp_tup {n k : Nat} {ds : List D} (h : ∀ d ∈ ds, Rp n k d) : Rp ((n + 2) * ds.length + 3) (k + 1) (.tuple ds) := by
  obtain ⟨a, b, c, e, f⟩ := rps_pl h
  refine ⟨by simp [PyData.plain, a], by simp only [PyData.depth]; omega, by simp [PyData.showable, c], ?_⟩
  have := tupleText_len_le (PyData.shownAll ds)
  simp only [PyData.shown, Nat.add_mul]
  omega
theorem Rp.shal {n k : Nat} {d : D} (h : Rp n k d) (hk : k ≤ 60) : shal d = true := by
  have := h.dp
  simp only [Dl.shal, h.pl, Bool.true_and, decide_eq_true_eq]
  omega
theorem rp_repr {n k : Nat} {d : D} {S : Store} (h : Rp n k d) (hn : n ≤ 16777216) (hk : k ≤ 60) : fRepr [.d d] S = .ok (.d (.str d.shown)) S := by
  have h1 : d.shown.length ≤ sizeLine := Nat.le_trans h.len (Nat.le_trans hn (by decide))
  simp [fRepr, h.shal hk, h.sh, h1]
theorem eqv_str {x y : Str} : PyData.eqv (.str x) (.str y) = decide (x = y) := by
  rw [Bool.eq_iff_iff]
  simp [PyData.eqv]
@[simp] theorem oEq_str {x y : Str} {S : Store} : oEq (.d (.str x)) (.d (.str y)) S = .ok (.d (.bool (decide (x = y)))) S := by simp [oEq, eqv_str]
@[simp] theorem oNe_str {x y : Str} {S : Store} : oNe (.d (.str x)) (.d (.str y)) S = .ok (.d (.bool (!decide (x = y)))) S := by simp [oNe, eqv_str]
mutual
theorem eqv_refl : ∀ d : D, d.plain = true → PyData.eqv d d = true
  | .none, _ => by simp [PyData.eqv]
  | .bool b, _ => by cases b <;> simp [PyData.eqv]
  | .int _, _ => by simp [PyData.eqv]
  | .str _, _ => by simp [PyData.eqv]
  | .list xs, h => by
    simp only [PyData.eqv]
    exact eqvs_refl xs (by simpa [PyData.plain] using h)
  | .tuple xs, h => by
    simp only [PyData.eqv]
    exact eqvs_refl xs (by simpa [PyData.plain] using h)
  | .dict _, h => by simp [PyData.plain] at h
theorem eqvs_refl : ∀ ds : List D, PyData.plainAll ds = true → PyData.eqvAll ds ds = true
  | [], _ => by simp [PyData.eqvAll]
  | x :: xs, h => by
    have h2 : x.plain = true ∧ PyData.plainAll xs = true := by simpa [PyData.plainAll] using h
    simp [PyData.eqvAll, eqv_refl x h2.1, eqvs_refl xs h2.2]
end
def dq (q : Rat) : D := .tuple [.int q.num, .int q.den]
theorem dq_of {a b : Int} (h : 0 < b) : PyData.tuple [.int (a / Int.gcd a b), .int (b / Int.gcd a b)] = dq (Rat.divInt a b) := by
  have e1 : (Rat.divInt a b).num = a / Int.gcd a b := by rw [Rat.num_divInt, Int.sign_eq_one_of_pos h, Int.one_mul, Int.gcd_comm]
  have e2 : ((Rat.divInt a b).den : Int) = b / Int.gcd a b := by
    rw [Rat.den_divInt, if_neg (by omega), Int.gcd_comm, Int.natCast_ediv, Int.natAbs_of_nonneg (by omega), Int.gcd_comm]
  unfold dq
  rw [e1, e2]
theorem gcd_mod (a b : Int) : Int.gcd b (a % b) = Int.gcd a b := by
  rw [Int.emod_def, Int.gcd_sub_mul_left_right, Int.gcd_comm]
structure Qs (n : Nat) (q : Rat) : Prop where
  num : Bd n q.num
  den : Bd n q.den
theorem Qs.mono {n m : Nat} {q : Rat} (h : Qs n q) (hm : n ≤ m) : Qs m q := ⟨h.num.mono hm, h.den.mono hm⟩
theorem Qs.div {n : Nat} {a b : Int} (ha : Bd n a) (hb : Bd n b) (h : 0 < b) : Qs n (Rat.divInt a b) := by
  constructor
  · rw [Rat.num_divInt, Int.sign_eq_one_of_pos h, Int.one_mul]
    exact Nat.lt_of_le_of_lt (Int.natAbs_ediv_le_natAbs a _) ha
  · rw [Rat.den_divInt, if_neg (by omega)]
    exact Nat.lt_of_le_of_lt (by simp; exact Nat.div_le_self _ _) hb
theorem Qs.rp {n : Nat} {q : Rat} (h : Qs n q) (hn : n ≤ 1900) : Rp 3849 1 (dq q) := rp_tup (n := 1921) (k := 0) (ds := [.int q.num, .int q.den]) fun d hd => by
  simp only [List.mem_cons, List.not_mem_nil, or_false] at hd
  rcases hd with rfl | rfl
  · exact rp_int (h.num.mono hn)
  · exact rp_int (h.den.mono hn)
theorem q_of (x : Rat) : Rat.divInt x.num x.den = x := by simp
theorem den_pos (x : Rat) : (0 : Int) < x.den := by have := x.den_pos; omega
theorem eqv_dq {x y : Rat} : PyData.eqv (dq x) (dq y) = decide (x = y) := by
  rw [Bool.eq_iff_iff]
  simp only [dq, PyData.eqv, PyData.eqvAll, Bool.and_true, decide_eq_true_eq]
  constructor
  · intro h
    simp at h
    exact Rat.ext h.1 (by exact_mod_cast h.2)
  · rintro rfl
    simp
instance {n : Nat} {i : Int} : Decidable (Bd n i) := inferInstanceAs (Decidable (_ < _))
theorem dq_01 : PyData.tuple [.int 0, .int 1] = dq 0 := by simp [dq]
theorem q_sub0 (x : Rat) : x - 0 = x := by grind
theorem num_den (x : Rat) : (x.num : Rat) / ((x.den : Int) : Rat) = x := by rw [← Rat.divInt_eq_div, q_of]
theorem den_ne (x : Rat) : ((x.den : Int) : Rat) ≠ 0 := by
  have := x.den_nz
  simp only [ne_eq, Rat.intCast_eq_zero_iff]
  omega
theorem divInt_den (x : Rat) (k : Int) (h : k ≠ 0) : Rat.divInt x.num (x.den * k) = x / k := by
  rw [Rat.divInt_eq_div, Rat.intCast_mul]
  have h1 := num_den x
  have h2 := den_ne x
  have h3 : (k : Rat) ≠ 0 := by simpa using h
  grind
theorem q_add (x y : Rat) : Rat.divInt (x.num * y.den + y.num * x.den) (x.den * y.den) = x + y := by
  have h1 := x.den_nz
  have h2 := y.den_nz
  rw [← Rat.divInt_add_divInt _ _ (by omega) (by omega), q_of, q_of]
theorem q_sub (x y : Rat) : Rat.divInt (x.num * y.den - y.num * x.den) (x.den * y.den) = x - y := by
  have h1 := x.den_nz
  have h2 := y.den_nz
  rw [← Rat.divInt_sub_divInt _ _ (by omega) (by omega), q_of, q_of]
theorem q_mul (x y : Rat) : Rat.divInt (x.num * y.num) (x.den * y.den) = x * y := by
  rw [← Rat.divInt_mul_divInt, q_of, q_of]
theorem dq_int (a : Int) : PyData.tuple [.int a, .int 1] = dq (a : Rat) := by simp [dq]
theorem dq_sq (a : Int) : PyData.tuple [.int (a * a), .int 1] = dq ((a : Rat) * a) := by rw [dq_int, Rat.intCast_mul]
section
variable {S : Store} {x y : Rat} {n m : Nat}
@[simp] theorem oIx_dq0 : oIx (.d (dq x)) (.d (.int 0)) S = .ok (.d (.int x.num)) S := by simp [dq]
@[simp] theorem oIx_dq1 : oIx (.d (dq x)) (.d (.int 1)) S = .ok (.d (.int x.den)) S := by simp [dq]
theorem shal_dq : shal (dq x) = true := by simp [shal, dq, PyData.plain, PyData.plainAll, PyData.depth, PyData.depthAll]
@[simp] theorem oEq_dq : oEq (.d (dq x)) (.d (dq y)) S = .ok (.d (.bool (decide (x = y)))) S := by simp [oEq, shal_dq, eqv_dq]
@[simp] theorem oNe_dq : oNe (.d (dq x)) (.d (dq y)) S = .ok (.d (.bool (!decide (x = y)))) S := by simp [oNe, shal_dq, eqv_dq]
theorem Qs.int {a : Int} (h : Bd n a) (hn : 1 ≤ n) : Qs n (a : Rat) := ⟨h, by
  show ((a : Rat).den : Int).natAbs < 2 ^ n
  have : (1 : Nat) < 2 ^ n := Nat.one_lt_two_pow (by omega)
  simpa using this⟩
theorem Qs.add (hx : Qs n x) (hy : Qs n y) : Qs (n + n + 1) (x + y) := by
  rw [← q_add]
  exact .div ((hx.num.mul hy.den).add (hy.num.mul hx.den)) ((hx.den.mul hy.den).mono (by omega)) (Int.mul_pos (den_pos x) (den_pos y))
theorem Qs.sub (hx : Qs n x) (hy : Qs n y) : Qs (n + n + 1) (x - y) := by
  rw [← q_sub]
  exact .div ((hx.num.mul hy.den).sub (hy.num.mul hx.den)) ((hx.den.mul hy.den).mono (by omega)) (Int.mul_pos (den_pos x) (den_pos y))
theorem Qs.mul (hx : Qs n x) (hy : Qs n y) : Qs (n + n) (x * y) := by
  rw [← q_mul]
  exact .div (hx.num.mul hy.num) (hx.den.mul hy.den) (Int.mul_pos (den_pos x) (den_pos y))
theorem Qs.divI {k : Int} (hx : Qs n x) (hk : Bd m k) (h : 0 < k) : Qs (n + m) (x / k) := by
  rw [← divInt_den x k (by omega)]
  exact .div (hx.num.mono (by omega)) (hx.den.mul hk) (Int.mul_pos (den_pos x) h)
end
def EnT (K : PySem.W.Frag) (a : Addr) : It where
  go := fun i H => ∃ (xs : List V) (x : V), SqT K H a xs ∧ xs[i]? = some x
  yld := fun i H v H' => ∃ T x, v = .ref T ∧ H T = none ∧ H' = upd H T (.tup [.int (i : Nat), x]) ∧ ∀ xs, SqT K H a xs → xs[i]? = some x
  stop := fun i H => ∃ xs : List V, SqT K H a xs ∧ xs.length ≤ i
theorem turn_enT {P : Program} {w : World} {K : PySem.W.Frag} {elts : List Expr} {kk : Nat} {tpos : Pos} (a e it : Addr) (hai : a ≠ it) (hae : a ≠ e) :
    Turn P w K (.Tuple elts kk tpos) (EnT K a) [e, it] e (fun i h => (∃ old, IsEnum h e it ((i : Nat) : Int) old) ∧ h.IsTupleIter it a i ∧ e ≠ it) where
  mem := by simp
  obj := fun i h ⟨⟨old, he⟩, ⟨o, ho, hc, hd⟩, _⟩ b hb => by
    rcases (by simpa using hb : b = e ∨ b = it) with z | z <;> subst z
    · exact ⟨_, he, fun v q => nomatch q⟩
    · exact ⟨o, ho, fun v q => by rw [hd] at q; cases q⟩
  keep := fun i h h' ⟨⟨old, he⟩, hi, hne⟩ k => ⟨⟨old, k e (by simp) _ he⟩, hi.at fun o q => k it (by simp) o q, hne⟩
  item := by
    intro X hP hw hK hc i pins s σ H E I hf ⟨⟨old, he⟩, hit, hne⟩ ⟨xs, x, hq, hx⟩
    subst hP hw hK
    obtain ⟨its, rv, p, hz⟩ := I.tuple hq
    obtain ⟨u, hu, ru⟩ := rv.get hx
    have hel : e < s.heap.objs.size := Heap.lt_size he
    have hil : it < s.heap.objs.size := by obtain ⟨_, q, _⟩ := hit; exact Heap.lt_size q
    have lt : i < its.toArray.size := by
      have : i < its.length := (List.getElem?_eq_some_iff.mp hu).1
      simpa using this
    have D := Draws.tuple (prog := X.prog) (w := X.w) (A := X.A.in1) (by exact I.ok.hd hc) it a hai its.toArray
    have nf : e ∉ [it, a] := fun z => by
      rcases (by simpa using z : e = it ∨ e = a) with q | q
      · exact hne q
      · exact hae q.symm
    refine wpAny_pyNext_enum_itemD D he ⟨hit, p⟩ lt hne nf fun y h' tk hy ho hst hT hsz hk => ?_
    have ey : y = u := by
      have h2 : its.toArray[i]? = some u := by simpa using hu
      rw [h2] at hy
      exact (Option.some.inj hy).symm
    subst ey
    refine ⟨_, rfl, wpAny_letOwnedTupleGo_enum (s := { s with heap := h', toks := tk + 1 }) ho fun h'' he' sb => ?_⟩
    have hT2 := (sb.2 s.heap.objs.size (Nat.ne_of_gt hel)).trans hT
    have two : (2 : Nat) ≤ sizeLine := by decide
    have new : ObjOk X.prog X.w (upd H s.heap.objs.size (.tup [.int (i : Nat), x])) h'' s.heap.objs.size (.tup [.int (i : Nat), x]) :=
      ⟨two, [.int i tk, y], .cons ⟨_, rfl⟩ (.cons ru .nil), _, hT2, rfl, _, rfl⟩
    have I1 : Inv X pins σ (upd H s.heap.objs.size (.tup [.int (i : Nat), x])) { s with heap := h'', toks := tk + 1 } :=
      I.turnedNew (ch := [e, it]) (fun b ob hb q => (sb.2 b (fun z => hb (by simp [z]))).trans (hk b ob (fun z => hb (by simp [z])) (fun z => hb (by simp [z])) q)) hf (Nat.le_refl _) new
    refine ⟨.ref s.heap.objs.size, _, I1, rfl, ⟨_, x, rfl, I.hok.fresh (Nat.le_refl _), rfl, fun ys hy => by rw [I.tuple_inj hy hq]; exact hx⟩, ⟨⟨y, ?_⟩, hst.1.at fun o q => (sb.2 it (Ne.symm hne)).trans q, hne⟩, fun b hb => ?_⟩
    · rw [show ((i + 1 : Nat) : Int) = (i : Int) + 1 by omega]
      exact he'
    · have hb' : b < s.heap.objs.size := by
        rcases (by simpa using hb : b = e ∨ b = it) with z | z <;> rw [z] <;> assumption
      rw [upd_ne (Nat.ne_of_lt hb')]
      exact (hf b hb).1
  done := by
    intro X hP hw hK hc i pins s σ H E I hf ⟨⟨old, he⟩, hit, hne⟩ ⟨xs, hq, hx⟩
    subst hP hw hK
    obtain ⟨its, rv, p, hz⟩ := I.tuple hq
    obtain ⟨f0, f1, f2, f3, f4, f5⟩ := hf it (by simp)
    have hl := rv.length
    have none_ : its.toArray[i]? = none := by simp; omega
    have D : Draws X.prog X.w X.A.in1 it [it, a] i (fun _ _ => True) fun j h => j = i ∧ h.IsTupleIter it a j ∧ h.IsTuple a its.toArray := {
      live := fun _ _ st => let ⟨o, ho, _⟩ := st.2.1; ⟨o, ho⟩
      frame := fun _ _ _ st hk => ⟨st.1, st.2.1.at fun o e => hk it (by simp) o e, st.2.2.at fun o e => hk a (by simp) o e⟩
      item := fun j s Q E hj st hQ => absurd st.1 (Nat.ne_of_lt hj)
      done := fun s Q E st hE => wpAny_nextOf_tuple_end (by exact I.ok.hd hc) st.2.1 st.2.2 none_ hE }
    exact wpAny_pyNext_enum_endD D he ⟨rfl, hit, p⟩ fun h' eb => ⟨rfl, I.turned (t' := s.toks) (fun b o hb q => eb b o hb q) f0 f1 f3 f4 f5⟩
  self := fun A i s Q E ⟨⟨_, he⟩, _⟩ h => wpAny_pyIter_enum he h
theorem meets_enT (l : Addr) (ob : Obj) (items : Array Value) (n : Nat) (hc : ob.cls = .type "tuple") (hd : ob.data = .seq items n) :
    Meets (Builtin.«enumerate.__new__» ⟨[.type "enumerate", .ref l], []⟩) (fun _ R s => s.heap.get? l = some ob ∧
      R (.ok (.ret (.ref (s.heap.push { cls := .type "tuple_iterator", data := .fields #[.ref l, .int 0 0] }).objs.size)))
        { s with heap := (s.heap.push { cls := .type "tuple_iterator", data := .fields #[.ref l, .int 0 0] }).push { cls := .type "enumerate", data := .fields #[.none, .bool false, .ref s.heap.objs.size, rawInt 0, .none, .none] } }) := by
  obtain ⟨c, dct, dt, sl⟩ := ob
  obtain rfl : c = .type "tuple" := hc
  obtain rfl : dt = .seq items n := hd
  refine .of_wp fun prog w A R s h => ?_
  obtain ⟨hp, g, d, tk, os⟩ := s
  obtain ⟨hl, h⟩ := h
  have sub := sub_enumerate
  have hL : Heap.IsTuple (Shared.heap ⟨hp, g, d, tk, os⟩) l items := ⟨_, hl, rfl, n, rfl⟩
  wp_walk using AutoSeq1.wpAny_loadPart' hl
  refine wpAny_stack_any fun st => wpAny_pure ?_
  split
  · rename_i c _ _ _ _ _
    cases (c == Value.type "enumerate") <;> (wp_walk using AutoSeq1.wpAny_loadPart' hl, wpAny_pyIter_tuple hL; exact ⟨_, rfl, h⟩)
  · wp_walk using AutoSeq1.wpAny_loadPart' hl, wpAny_pyIter_tuple hL
    exact ⟨_, rfl, h⟩
theorem call_enT {prog : Program} {w : World} {A : Around} {E : Value → Shared → Prop} {s : Shared} {l : Addr} {items : Array Value} {Q : Value → Shared → Prop} (hL : s.heap.IsTuple l items)
    (h : ∀ h', IsEnum h' (s.heap.objs.size + 1) s.heap.objs.size 0 .none → h'.IsTupleIter s.heap.objs.size l 0 → h'.objs.size = s.heap.objs.size + 2 → (∀ b o, s.heap.get? b = some o → h'.get? b = some o) → Q (.ref (s.heap.objs.size + 1)) { s with heap := h' }) :
    wpAny (model prog w) A (call (.type "enumerate") [.ref l]) Q E s := by
  obtain ⟨ob, hl, hc, n, hd⟩ := hL
  have m := meets_enT l ob items n hc hd
  refine callType_new F.called_enumerate (by decide) (F.typeCall_enumerate_1 _) (F.newCall_enumerate_1 _) (fun obj => F.args_object_init_2 obj _) F.entry_enumerate_new m ⟨hl, ?_⟩
  generalize ho : ({ cls := .type "tuple_iterator", data := .fields #[.ref l, .int 0 0] } : Obj) = o1
  generalize hn : ({ cls := .type "enumerate", data := .fields #[.none, .bool false, .ref s.heap.objs.size, rawInt 0, .none, .none] } : Obj) = o2
  have hz : (s.heap.push o1).objs.size = s.heap.objs.size + 1 := Heap.size_push ..
  have f2 : o2.isFreed = false := by subst hn; rfl
  have f1 : o1.isFreed = false := by subst ho; rfl
  have g2 := Heap.get?_push_size (s.heap.push o1) (o := o2) f2
  show _ ∧ _
  rw [hz] at g2 ⊢
  refine ⟨⟨o2, g2, by subst hn; rfl⟩, h _ (by subst hn; exact g2) ⟨o1, Heap.get?_push_of_some _ (Heap.get?_push_size _ f1), by subst ho; rfl, by subst ho; rfl⟩ (by rw [Heap.size_push, hz]) fun b o x => Heap.get?_push_of_some _ (Heap.get?_push_of_some _ x)⟩
def jEn (K : PySem.W.Frag) (ta : TA) : TI := fun σ H R => ta σ H fun vs H1 => ∃ a, vs = [.ref a] ∧ (((∃ xs, SqL K H1 a xs) ∧ R (Ite K a) H1) ∨ ((∃ xs, SqT K H1 a xs) ∧ R (EnT K a) H1))
theorem pi_enA {X : Cx} {e : Expr} {ta : TA} {p pos tpos : Pos} {elts : List Expr} {kk : Nat} (hg : Gl X "enumerate") (hm : X.mg "enumerate" = none) (ha : PA X [e] ta) (hs : starEach [e] X.env = [(false, eval e X.env)] := by rfl) :
    PI X (.Tuple elts kk tpos) (.Call (.Name "enumerate" p) [e] [] pos) (jEn X.K ta) := by
  refine ⟨fun pins s σ H R I h => ?_⟩
  refine Call_ (ld_blt I hg hm boot_enumerate (PyProof.Rows.callWith_type1 (thn (ha.run pos pins s σ H _ I h) fun us s1 ⟨vs, H1, I1, r1, a, ex, q1⟩ => ?_) hs rfl))
  subst ex
  cases r1 with
  | cons r rr =>
    cases rr
    cases r
    have fresh : ∀ b ∈ [s1.heap.objs.size + 1, s1.heap.objs.size], FpOk X pins H1 b := fun b hb => by
      have hle : s1.heap.objs.size ≤ b := by
        rcases (by simpa using hb : b = s1.heap.objs.size + 1 ∨ b = s1.heap.objs.size) with z | z <;> omega
      exact I1.fpOk hle (I1.hok.fresh hle)
    rcases q1 with ⟨⟨xs, hq⟩, q⟩ | ⟨⟨xs, hq⟩, q⟩
    · obtain ⟨its, rv, p', hz⟩ := I1.list hq
      exact call_enumerate_list p'.isList fun h' he hit hsz hk => wpAny_pyIter_enum he ⟨_, _, _, _, H1, rfl, I1.kept (t' := s1.toks) hk, turn_enum a (s1.heap.objs.size + 1) s1.heap.objs.size, ⟨⟨.none, he⟩, hit, Nat.succ_ne_self _⟩, fresh, q⟩
    · obtain ⟨its, rv, p', hz⟩ := I1.tuple hq
      have lt : a < s1.heap.objs.size := by
        obtain ⟨_, q, _⟩ := p'
        exact Heap.lt_size q
      exact call_enT p' fun h' he hit hsz hk => wpAny_pyIter_enum he ⟨_, _, _, _, H1, rfl, I1.kept (t' := s1.toks) hk, turn_enT a (s1.heap.objs.size + 1) s1.heap.objs.size (Nat.ne_of_lt lt) (Nat.ne_of_lt (Nat.lt_succ_of_lt lt)), ⟨⟨.none, he⟩, hit, Nat.succ_ne_self _⟩, fresh, q⟩
def enumD (ds : List D) : List D := ds.zipIdx.map fun p => .tuple [.int (p.2 : Nat), p.1]
def zipD (xs ys : List D) : List D := List.zipWith (fun x y => .tuple [x, y]) xs ys
def iEnumD (f : Ev) : Iv := fun ρ S => (f ρ S).bind fun v S1 => (fr v S1).bind fun d S2 => match seqOf d with
  | some ds => .ok (enumD ds) S2
  | none => .bad
def iZipD (f : Av) : Iv := fun ρ S => (f ρ S).bind fun vs S1 => (frs vs S1).bind fun ds S2 => match ds with
  | [.list xs, .list ys] => .ok (zipD xs ys) S2
  | [.tuple xs, .tuple ys] => .ok (zipD xs ys) S2
  | _ => .bad
section
variable {K : PySem.W.Frag} {F : Addr → Prop} {H : Hp} {a b : Addr} {xs ys : List V} {ds es : List D}
theorem enumD_len : (enumD ds).length = ds.length := by simp [enumD]
theorem enumD_get {i : Nat} (h : i < ds.length) : (enumD ds)[i]? = some (.tuple [.int (i : Nat), ds[i]]) := by simp [enumD, h]
theorem yl_enL (hf : F a) (h1 : H a = some (.lst xs)) (h2 : FzAll K F H xs ds) : Yl K F H (Ite K a) (enumD ds) := by
  have at_ : ∀ H', Agree F H H' → SqL K H' a xs := fun H' g => .inl (.inl ((g a hf).trans h1))
  refine ⟨fun i H' hi g => ?_, fun H' g => ⟨xs, at_ H' g, by rw [enumD_len, h2.len]; exact Nat.le_refl _⟩, fun i H' v H'' hi g y => ?_⟩ <;> rw [enumD_len] at hi
  · obtain ⟨v, hv, _⟩ := h2.get (List.getElem?_eq_getElem hi)
    exact ⟨xs, v, at_ H' g, hv⟩
  · obtain ⟨v', hv, fv⟩ := h2.get (List.getElem?_eq_getElem hi)
    obtain ⟨T, x, e1, e2, e3, e4⟩ := y
    have e := e4 xs (at_ H' g)
    rw [hv] at e
    cases e
    exact ⟨_, enumD_get hi, .inr ⟨T, _, _, e1, e2, e3, rfl, .cons (.int _) (.cons fv .nil)⟩⟩
theorem yl_enT (h1 : FqT K F H a xs) (h2 : FzAll K F H xs ds) : Yl K F H (EnT K a) (enumD ds) := by
  have at_ : ∀ H', Agree F H H' → SqT K H' a xs := fun H' g => (h1.ext (fun _ h => h) g).sq
  refine ⟨fun i H' hi g => ?_, fun H' g => ⟨xs, at_ H' g, by rw [enumD_len, h2.len]; exact Nat.le_refl _⟩, fun i H' v H'' hi g y => ?_⟩ <;> rw [enumD_len] at hi
  · obtain ⟨v, hv, _⟩ := h2.get (List.getElem?_eq_getElem hi)
    exact ⟨xs, v, at_ H' g, hv⟩
  · obtain ⟨v', hv, fv⟩ := h2.get (List.getElem?_eq_getElem hi)
    obtain ⟨T, x, e1, e2, e3, e4⟩ := y
    have e := e4 xs (at_ H' g)
    rw [hv] at e
    cases e
    exact ⟨_, enumD_get hi, .inr ⟨T, _, _, e1, e2, e3, rfl, .cons (.int _) (.cons fv .nil)⟩⟩
theorem zipD_len : (zipD ds es).length = min ds.length es.length := by simp [zipD]
theorem zipD_get {i : Nat} (h : i < ds.length) (h2 : i < es.length) : (zipD ds es)[i]? = some (.tuple [ds[i], es[i]]) := by simp [zipD, List.getElem?_zipWith, h, h2]
theorem yl_zipL (hf : F a) (h1 : H a = some (.lst xs)) (h2 : FzAll K F H xs ds) (hf' : F b) (h3 : H b = some (.lst ys)) (h4 : FzAll K F H ys es) : Yl K F H (Itz K a b) (zipD ds es) := by
  have at_ : ∀ H', Agree F H H' → SqL K H' a xs := fun H' g => .inl (.inl ((g a hf).trans h1))
  have bt_ : ∀ H', Agree F H H' → SqL K H' b ys := fun H' g => .inl (.inl ((g b hf').trans h3))
  refine ⟨fun i H' hi g => ?_, fun H' g => ⟨xs, ys, at_ H' g, bt_ H' g, by rw [zipD_len, h2.len, h4.len]; omega⟩, fun i H' v H'' hi g y => ?_⟩ <;> rw [zipD_len] at hi
  · obtain ⟨v, hv, _⟩ := h2.get (List.getElem?_eq_getElem (by omega : i < ds.length))
    obtain ⟨u, hu, _⟩ := h4.get (List.getElem?_eq_getElem (by omega : i < es.length))
    exact ⟨xs, ys, v, u, at_ H' g, bt_ H' g, hv, hu⟩
  · obtain ⟨v', hv, fv⟩ := h2.get (List.getElem?_eq_getElem (by omega : i < ds.length))
    obtain ⟨u', hu, fu⟩ := h4.get (List.getElem?_eq_getElem (by omega : i < es.length))
    obtain ⟨T, x, y, e1, e2, e3, e4, e5⟩ := y
    have e := e4 xs (at_ H' g)
    rw [hv] at e
    cases e
    have e := e5 ys (bt_ H' g)
    rw [hu] at e
    cases e
    exact ⟨_, zipD_get (by omega) (by omega), .inr ⟨T, _, _, e1, e2, e3, rfl, .cons fv (.cons fu .nil)⟩⟩
theorem yl_zipT (h1 : FqT K F H a xs) (h2 : FzAll K F H xs ds) (h3 : FqT K F H b ys) (h4 : FzAll K F H ys es) : Yl K F H (RZ.ItzT K a b) (zipD ds es) := by
  have at_ : ∀ H', Agree F H H' → SqT K H' a xs := fun H' g => (h1.ext (fun _ h => h) g).sq
  have bt_ : ∀ H', Agree F H H' → SqT K H' b ys := fun H' g => (h3.ext (fun _ h => h) g).sq
  refine ⟨fun i H' hi g => ?_, fun H' g => ⟨xs, ys, at_ H' g, bt_ H' g, by rw [zipD_len, h2.len, h4.len]; omega⟩, fun i H' v H'' hi g y => ?_⟩ <;> rw [zipD_len] at hi
  · obtain ⟨v, hv, _⟩ := h2.get (List.getElem?_eq_getElem (by omega : i < ds.length))
    obtain ⟨u, hu, _⟩ := h4.get (List.getElem?_eq_getElem (by omega : i < es.length))
    exact ⟨xs, ys, v, u, at_ H' g, bt_ H' g, hv, hu⟩
  · obtain ⟨v', hv, fv⟩ := h2.get (List.getElem?_eq_getElem (by omega : i < ds.length))
    obtain ⟨u', hu, fu⟩ := h4.get (List.getElem?_eq_getElem (by omega : i < es.length))
    obtain ⟨T, x, y, e1, e2, e3, e4, e5⟩ := y
    have e := e4 xs (at_ H' g)
    rw [hv] at e
    cases e
    have e := e5 ys (bt_ H' g)
    rw [hu] at e
    cases e
    exact ⟨_, zipD_get (by omega) (by omega), .inr ⟨T, _, _, e1, e2, e3, rfl, .cons fv (.cons fu .nil)⟩⟩
end
section
variable {X : Cx} {W : WX} {c d : Expr} {f f' : Ev} {p pos tpos : Pos} {elts : List Expr} {kk : Nat}
theorem di_enum (hg : Gl X "enumerate") (hm : X.mg "enumerate" = none) (h : DA τ X W [c] (aCons f aNil)) (hs : starEach [c] X.env = [(false, eval c X.env)] := by rfl) : DI τ X W (.Tuple elts kk tpos) (.Call (.Name "enumerate" p) [c] [] pos) (iEnumD f) :=
  ⟨PI.mono (pi_enA hg hm h.r hs) fun σ H R ⟨φ, F, ρ, S, g, sl, q⟩ => by
    refine ⟨φ, F, ρ, S, g, sl, ?_⟩
    unfold iEnumD at q
    unfold aCons aNil
    have q2 : PostG τ X.K X.mg (RepY X.K) (fun c od H' => W c od σ H') S.length φ F H R (((f ρ S).bind fun v S1 => Res.ok [v] S1).bind fun vs S1 => match vs with
      | [v] => (fr v S1).bind fun d S2 => match seqOf d with
        | some ds => .ok (enumD ds) S2
        | none => .bad
      | _ => .bad) := by
      cases e : f ρ S <;> (rw [e] at q; exact q)
    refine PostG.bind g q2 fun φ1 F1 H1 S1 vs xs nw1 r1 p1 => ?_
    cases vs with
    | nil => exact p1.elim
    | cons v vs =>
      cases vs with
      | cons _ _ => exact p1.elim
      | nil =>
        obtain ⟨x, rfl, rx⟩ := reps1 r1
        dsimp only at p1
        have hne : fr v S1 ≠ .bad := fun e => by rw [e] at p1; exact p1
        obtain ⟨φ2, F2, S2, d, nw2, f2, e2⟩ := fr_ok nw1.sg rx hne
        rw [e2] at p1
        have p2 := PostG.start nw1.sg nw2 p1
        cases d <;> first | exact p2.elim | skip
        · cases f2 with
          | lst h1 h2 h3 => exact ⟨_, rfl, .inl ⟨⟨_, .inl (.inl h2)⟩, p2 _ _ _ (.refl nw2.sg) _ (yl_enL h1 h2 h3)⟩⟩
        · cases f2 with
          | tup h1 h2 => exact ⟨_, rfl, .inr ⟨⟨_, h1.sq⟩, p2 _ _ _ (.refl nw2.sg) _ (yl_enT h1 h2)⟩⟩⟩
theorem di_zip {fs : Av} (hg : Gl X "zip") (hm : X.mg "zip" = none) (h : DA τ X W [c, d] fs) (hs : starEach [c, d] X.env = (false, eval c X.env) :: starEach [d] X.env := by rfl) (hpl : (backTo pos (starEach [d] X.env)).any (·.1) = false := by rfl) : DI τ X W (.Tuple elts kk tpos) (.Call (.Name "zip" p) [c, d] [] pos) (iZipD fs) :=
  ⟨PI.mono (RZ.pi_zipA hg hm h.r hs hpl) fun σ H R ⟨φ, F, ρ, S, g, sl, q⟩ => by
    refine ⟨φ, F, ρ, S, g, sl, PostG.bind g q fun φ1 F1 H1 S1 vs xs nw1 r1 p1 => ?_⟩
    obtain ⟨φ2, F2, S2, ds, nw2, f2, p2⟩ := frs_ok (k := fun ds S2 => (match ds with
      | [.list xs, .list ys] => .ok (zipD xs ys) S2
      | [.tuple xs, .tuple ys] => .ok (zipD xs ys) S2
      | _ => .bad : Res (List D))) nw1.sg r1 p1
    have p3 := PostG.start nw1.sg nw2 p2
    split at p3
    · cases f2 with
      | cons fa t => cases t with
        | cons fb t => cases t with
          | nil => cases fa with
            | lst h1 h2 h3 => cases fb with
              | lst h4 h5 h6 => exact ⟨_, _, _, _, rfl, .inl ⟨.inl (.inl h2), .inl (.inl h5), p3 _ _ _ (.refl nw2.sg) _ (yl_zipL h1 h2 h3 h4 h5 h6)⟩⟩
    · cases f2 with
      | cons fa t => cases t with
        | cons fb t => cases t with
          | nil => cases fa with
            | tup h1 h2 => cases fb with
              | tup h4 h5 => exact ⟨_, _, _, _, rfl, .inr ⟨h1.sq, h4.sq, p3 _ _ _ (.refl nw2.sg) _ (yl_zipT h1 h2 h4 h5)⟩⟩
    · exact p3.elim⟩
end
def isLst (S : Store) (v : Vl) : Bool := match v with
  | .loc n => match S[n]? with
    | some (.lst _) => true
    | _ => false
  | _ => false
def putApp (o : Vl) (d : D) (S : Store) : Res Vl := match o with
  | .loc n => match S[n]? with
    | some (.lst xs) => if xs.length < sizeLine then .ok (.d .none) (S.set n (.lst (xs ++ [d]))) else .bad
    | _ => .bad
  | _ => .bad
def eApp (fo fe : Ev) : Ev := fun ρ S => (fo ρ S).bind fun o S1 => if isLst S1 o = true then (fe ρ S1).bind fun v S2 => (fr v S2).bind fun d S3 => putApp o d S3 else .bad
def putExt (o : Vl) (v : Vl) (S : Store) : Res Vl := match o, view S v with
  | .loc n, some (.list ys) => match S[n]? with
    | some (.lst xs) => if xs.length + ys.length ≤ sizeLine then .ok (.d .none) (S.set n (.lst (xs ++ ys))) else .bad
    | _ => .bad
  | _, _ => .bad
def eExt (fo fe : Ev) : Ev := fun ρ S => (fo ρ S).bind fun o S1 => if isLst S1 o = true then (fe ρ S1).bind fun v S2 => putExt o v S2 else .bad
section
variable {X : Cx} {W : WX} {o e : Expr} {fo fe : Ev} {apos cpos : Pos}
theorem ty_loc {K : PySem.W.Frag} {mg : Str → Option Value} {φ : Nat → Addr} {F : Addr → Prop} {H : Hp} {S : Store} {v : Vl} {x : V} (g : SG τ K φ F H S) (r : RepV K mg φ F H S.length x v) (h : isLst S v = true) : tyV K "list" x H := by
  unfold isLst at h
  split at h
  · split at h
    · rename_i n xs q
      obtain ⟨_, rfl⟩ := r
      obtain ⟨_, ys, h1, _⟩ := g.obj _ _ q
      exact .inl ⟨rfl, ys, .inl (.inl h1)⟩
    · cases h
  · cases h
theorem da_one {fs : Ev} {σ : L2.St} {H : Hp} {Q : List V → Hp → Prop} (h : ∃ φ F ρ S, SG τ X.K φ F H S ∧ Slots X.K X.mg φ F H S.length σ ρ ∧ Post τ X.K X.mg (fun c od H' => W c od σ H') S.length φ F H (fun v H1 => Q [v] H1) (fs ρ S)) : RA τ X.K X.mg W (aCons fs aNil) σ H Q := by
  obtain ⟨φ, F, ρ, S, g, sl, p⟩ := h
  refine ⟨φ, F, ρ, S, g, sl, ?_⟩
  unfold aCons aNil
  cases e : fs ρ S with
  | bad => rw [e] at p; exact p
  | ex x S1 => rw [e] at p; exact p
  | ok v S1 =>
    rw [e] at p
    intro φ1 F1 H1 nw xs r
    obtain ⟨x, rfl, rx⟩ := reps1 r
    exact p _ _ _ nw x rx
theorem de_append (ho : DE τ X W o fo) (ha : DA τ X W [e] (aCons fe aNil)) (hbase : attributeBase o "append" X.env (eval o X.env) = eval o X.env := by rfl)
    (hfew : ((backTo cpos (starEach [e] X.env)).all (fun x => !x.1) && (backToKw cpos (keywordEach [] X.env)).all (fun x => x.1.isSome) && decide ([e].length + ([] : List Keyword).length + (if ([] : List Keyword).isEmpty then 0 else 1) < 30)) = true := by rfl)
    (hline : (apos.endLine == cpos.line) = true := by rfl) (hs : starEach [e] X.env = (false, eval e X.env) :: starEach [] X.env := by rfl) (hplain : (backTo cpos (starEach [] X.env)).any (·.1) = false := by rfl) :
    DE τ X W (.Call (.Attribute o "append" apos) [e] [] cpos) (eApp fo fe) :=
  ⟨PE.mono (pe_bm PySem.F.plainAttrs_list PySem.F.slot_list_append PySem.F.type_list_append mt_append ho.r ha.r hbase hfew hline hs hplain) fun σ H Q ⟨φ, F, ρ, S, g, sl, p⟩ =>
    ⟨φ, F, ρ, S, g, sl, PostG.bind g p fun φ1 F1 H1 S1 v x nw1 r1 p1 => by
      by_cases hl : isLst S1 v = true
      · rw [if_pos hl] at p1
        refine ⟨ty_loc nw1.sg r1 hl, da_one ⟨φ1, F1, ρ, S1, nw1.sg, sl.now nw1, PostG.bind nw1.sg p1 fun φ2 F2 H2 S2 u y nw2 r2 p2 => ?_⟩⟩
        have hne : fr u S2 ≠ .bad := fun e => by rw [e] at p2; exact p2
        obtain ⟨φ3, F3, S3, d, nw3, f3, e3⟩ := fr_ok nw2.sg r2 hne
        rw [e3, bind_ok] at p2
        have p3 := PostG.start nw2.sg nw3 p2
        unfold putApp at p3
        split at p3
        · rename_i n
          split at p3
          · rename_i xs q
            by_cases hz : xs.length < sizeLine
            · rw [if_pos hz] at p3
              obtain ⟨h0, ys, h1, h2⟩ := nw3.sg.obj n _ q
              obtain ⟨hn, rfl⟩ := ((r1.now nw2).now nw3)
              refine ⟨_, ys, y, rfl, rfl, h1, by rw [h2.len]; exact hz, ?_⟩
              have nw4 := nw3.sg.write (o := .lst (ys ++ [y])) (mo := .lst (xs ++ [d])) q rfl fun nf same => ⟨nf, _, upd_same, (h2.append (.cons f3 .nil)).ext (fun _ h => h) same⟩
              exact PostG.start nw3.sg nw4 p3 _ _ _ (.refl nw4.sg) _ .non
            · rw [if_neg hz] at p3; exact p3.elim
          · exact p3.elim
        · exact p3.elim
      · rw [if_neg hl] at p1; exact p1.elim⟩⟩
theorem de_extend (ho : DE τ X W o fo) (ha : DA τ X W [e] (aCons fe aNil)) (hbase : attributeBase o "extend" X.env (eval o X.env) = eval o X.env := by rfl)
    (hfew : ((backTo cpos (starEach [e] X.env)).all (fun x => !x.1) && (backToKw cpos (keywordEach [] X.env)).all (fun x => x.1.isSome) && decide ([e].length + ([] : List Keyword).length + (if ([] : List Keyword).isEmpty then 0 else 1) < 30)) = true := by rfl)
    (hline : (apos.endLine == cpos.line) = true := by rfl) (hs : starEach [e] X.env = (false, eval e X.env) :: starEach [] X.env := by rfl) (hplain : (backTo cpos (starEach [] X.env)).any (·.1) = false := by rfl) :
    DE τ X W (.Call (.Attribute o "extend" apos) [e] [] cpos) (eExt fo fe) :=
  ⟨PE.mono (pe_bm PySem.F.plainAttrs_list PySem.F.slot_list_extend PySem.F.type_list_extend mt_extend ho.r ha.r hbase hfew hline hs hplain) fun σ H Q ⟨φ, F, ρ, S, g, sl, p⟩ =>
    ⟨φ, F, ρ, S, g, sl, PostG.bind g p fun φ1 F1 H1 S1 v x nw1 r1 p1 => by
      by_cases hl : isLst S1 v = true
      · rw [if_pos hl] at p1
        refine ⟨ty_loc nw1.sg r1 hl, da_one ⟨φ1, F1, ρ, S1, nw1.sg, sl.now nw1, PostG.bind nw1.sg p1 fun φ2 F2 H2 S2 u y nw2 r2 p2 => ?_⟩⟩
        unfold putExt at p2
        split at p2
        · rename_i n zs q0
          split at p2
          · rename_i xs q
            by_cases hz : xs.length + zs.length ≤ sizeLine
            · rw [if_pos hz] at p2
              obtain ⟨b, ws, rfl, h3, h4⟩ := ob_of nw2.sg r2 q0
              obtain ⟨h0, ys, h1, h2⟩ := nw2.sg.obj n _ q
              obtain ⟨hn, rfl⟩ := (r1.now nw2)
              refine ⟨_, b, ys, ws, rfl, rfl, h1, h3, by rw [h2.len, h4.len]; exact hz, ?_⟩
              have nw4 := nw2.sg.write (o := .lst (ys ++ ws)) (mo := .lst (xs ++ zs)) q rfl fun nf same => ⟨nf, _, upd_same, (h2.append h4).ext (fun _ h => h) same⟩
              exact PostG.start nw2.sg nw4 p2 _ _ _ (.refl nw4.sg) _ .non
            · rw [if_neg hz] at p2; exact p2.elim
          · exact p2.elim
        · exact p2.elim
      · rw [if_neg hl] at p1; exact p1.elim⟩⟩
end
def fSum1 : Fn := fun vs S => match vs with
  | [v] => match view S v with
    | some (.list ds) => match intsOf ds with
      | some ns => .ok (.d (.int ns.sum)) S
      | none => .bad
    | _ => .bad
  | _ => .bad
theorem ok_sum1 {K : PySem.W.Frag} {mg : Str → Option Value} : CallOk τ K mg (rSum K) fSum1 := by
  intro φ F H S xs vs Q W g r p
  unfold fSum1 at p
  split at p
  · rename_i v
    obtain ⟨x, rfl, r1⟩ := reps1 r
    split at p
    · rename_i ds e
      obtain ⟨a, ys, rfl, h1, h2⟩ := ob_of g r1 e
      split at p
      · rename_i ns en
        have ey := intsOf_fz en h2
        subst ey
        exact ⟨a, ns, rfl, .inl (.inl h1), Post.ok g p (.int _)⟩
      · exact p.elim
    · exact p.elim
  · exact p.elim
def eRevL (m : Bool) (f : Ev) : Ev := fun ρ S => (f ρ S).bind fun v S1 => match view S1 v with
  | some (.list ds) => mkL m ds.reverse S1
  | _ => .bad
theorem FzAll.rev {K : PySem.W.Frag} {F : Addr → Prop} {H : Hp} : ∀ {xs : List V} {ds : List D}, FzAll K F H xs ds → FzAll K F H xs.reverse ds.reverse
  | _, _, .nil => .nil
  | _, _, .cons h t => by
    rw [List.reverse_cons, List.reverse_cons]
    exact (FzAll.rev t).append (.cons h .nil)
theorem de_revL {X : Cx} {W : WX} {e : Expr} {f : Ev} {k : Nat} {p1 p2 p3 pos : Pos} (m : Bool) (h : DE τ X W e f) : DE τ X W (.Subscript e (.Slice none none (some (.UnaryOp .USub (.Constant (.int 1) k p1) p2)) p3) pos) (eRevL m f) :=
  ⟨PE.mono (pe_revL h.r) fun σ H Q ⟨φ, F, ρ, S, g, sl, p⟩ => ⟨φ, F, ρ, S, g, sl, PostG.bind g p fun φ1 F1 H1 S1 v x nw1 r1 p1 => by
    split at p1
    · rename_i ds e
      obtain ⟨a, ys, rfl, h1, h2⟩ := ob_of nw1.sg r1 e
      exact ⟨a, ys, rfl, .inl (.inl h1), Post.newL nw1.sg h2.rev p1⟩
    · exact p1.elim⟩⟩
section
variable {ρ : Env} {S : Store} {f g : Ev} {fs : Av} {m : Bool}
@[simp] theorem ap_eApp : eApp f g ρ S = (f ρ S).bind fun o S1 => if isLst S1 o = true then (g ρ S1).bind fun v S2 => (fr v S2).bind fun d S3 => putApp o d S3 else .bad := rfl
@[simp] theorem ap_eExt : eExt f g ρ S = (f ρ S).bind fun o S1 => if isLst S1 o = true then (g ρ S1).bind fun v S2 => putExt o v S2 else .bad := rfl
@[simp] theorem ap_eRevL : eRevL m f ρ S = (f ρ S).bind fun v S1 => match view S1 v with
  | some (.list ds) => mkL m ds.reverse S1
  | _ => .bad := rfl
@[simp] theorem ap_iEnumD : iEnumD f ρ S = (f ρ S).bind fun v S1 => (fr v S1).bind fun d S2 => match seqOf d with
  | some ds => .ok (enumD ds) S2
  | none => .bad := rfl
@[simp] theorem ap_iZipD : iZipD fs ρ S = (fs ρ S).bind fun vs S1 => (frs vs S1).bind fun ds S2 => match ds with
  | [.list xs, .list ys] => .ok (zipD xs ys) S2
  | [.tuple xs, .tuple ys] => .ok (zipD xs ys) S2
  | _ => .bad := rfl
end
section
variable {prog : Program} {w : World} {A : Around} {E : Value → Shared → Prop} {s : Shared}
theorem cut_back {sl : Addr} {vl vu vs : Value} {n : Nat} {Q : Int × Int × Nat → Shared → Prop} (hs : s.heap.IsSliceOf sl vl vu vs) (pl : IsPart vl none) (pu : IsPart vu none) (ps : IsPart vs (some (-1)))
    (h : Q ((n : Int) - 1, -1, n) s) : wpAny (model prog w) A (Builtin.Slice.sliceApplied (.ref sl) (pure (n : Int))) Q E s := by
  obtain ⟨os, hos, hcs, hds⟩ := id hs
  unfold Builtin.Slice.sliceApplied Builtin.Slice.sliceFields
  refine wpAny_bind (wpAny_bind (wpAny_field hos hds (x := vl) rfl (wpAny_bind (wpAny_field hos hds (x := vu) rfl (wpAny_bind (wpAny_field hos hds (x := vs) rfl (wpAny_pure ?_)))))))
  refine wpAny_bind (HT.slicePart_ ps ?_)
  show wpAny _ _ (if ((-1 : Int) == 0) = true then _ else _) _ _ s
  rw [if_neg (by decide)]
  refine wpAny_bind (HT.slicePart_ pl (wpAny_bind (HT.slicePart_ pu (wpAny_bind (wpAny_pure ?_)))))
  have e1 : Builtin.Slice.sliceAdjust none none (-1) (n : Int) = ((n : Int) - 1, -1) := by
    unfold Builtin.Slice.sliceAdjust
    simp
  have e2 : Builtin.Slice.slicePlaces ((n : Int) - 1) (-1) (-1) = n := by
    unfold Builtin.Slice.slicePlaces
    simp
    omega
  show wpAny _ _ (match Builtin.Slice.sliceAdjust none none (-1) (n : Int) with | (lo, hi) => pure (lo, (-1 : Int), Builtin.Slice.slicePlaces lo hi (-1))) _ _ s
  rw [e1]
  show wpAny _ _ (pure ((n : Int) - 1, (-1 : Int), Builtin.Slice.slicePlaces ((n : Int) - 1) (-1) (-1))) _ _ s
  rw [e2]
  exact wpAny_pure h
theorem pick_back (xs : Array Value) : ((List.range xs.size).filterMap fun (m : Nat) => xs[((xs.size : Int) - 1 + (m : Int) * -1).toNat]?).toArray = xs.toList.reverse.toArray := by
  rw [← PySem.W.krv_pick]
  unfold slicePick
  rw [PySem.W.krv_bounds]
  show _ = ((sliceRange ((xs.size : Int) - 1) (-1) (-1)).filterMap (xs[·]?)).toArray
  rw [PySem.W.krv_sliceRange]
  have e : (List.range xs.size).map (fun k => xs.size - 1 - k) = (List.range xs.size).map fun (m : Nat) => ((xs.size : Int) - 1 + (m : Int) * -1).toNat := List.map_congr_left fun m hm => by
    have := List.mem_range.mp hm
    omega
  rw [e, List.filterMap_map]
  rfl
theorem item_back {t sl : Addr} {items : Array Value} {vl vu vs : Value} {Q : Value → Shared → Prop} (ht : IsTup s.heap t items) (hs : s.heap.IsSliceOf sl vl vu vs) (pl : IsPart vl none) (pu : IsPart vu none) (ps : IsPart vs (some (-1)))
    (h : Q (.ref s.heap.objs.size) { s with heap := s.heap.push { cls := .type "tuple", data := .seq items.toList.reverse.toArray } }) (hsz : items.size ≤ sizeLine) : wpAny (model prog w) A (getItem (.ref t) (.ref sl)) Q E s := by
  have big : sizeOk (.seq items.toList.reverse.toArray) := by
    show items.toList.reverse.toArray.size ≤ sizeLine
    simpa using hsz
  obtain ⟨os, hos, hcs, hds⟩ := id hs
  have hTs : s.TypeIs (.ref sl) "slice" := ⟨os, hos, hcs⟩
  unfold getItem
  try with_reducible refine wpAny_holding ?_
  first | refine wpAny_bind (wpAny_pure ?_) | skip
  refine wpAny_bind (wpAny_sequenceKey ht.typeIs (by decide) ?_)
  refine wpAny_bind (wpAny_callSpecial?_slot (name := Str.ofString "__getitem__") ht.typeIs PyProof.Rows.slot_tuple_getitem (wpAny_call_entry PyProof.Rows.slot_tuple_getitem ht.typeIs PyProof.Rows.entry_tuple_getitem ?_ (PyProof.Rows.args_tuple_getitem _ _)))
  show wpAny _ _ (Builtin.Tuple.tupleItemsOf (.ref t) >>= _) _ _ s
  refine wpAny_bind (PyProof.Rows.tupleItemsOf_ ht (wpAny_bind (wpAny_typeOf hTs ?_)))
  rw [if_pos (by decide)]
  refine wpAny_bind (cut_back hs pl pu ps ?_)
  have hno : ¬ ((((items.size : Int) - 1 : Int) == 0 && (-1 : Int) == 1 && items.size == items.size) = true) := by simp
  show wpAny _ _ (if ((((items.size : Int) - 1 : Int) == 0 && (-1 : Int) == 1 && items.size == items.size) = true) then _ else _) _ _ s
  rw [if_neg hno, pick_back]
  first
    | exact wpAny_bind (m := Builtin.Tuple.tupleExact _) (wpAny_newObj_type (wpAny_pure ⟨_, rfl, wpAny_pure h⟩) big)
    | exact wpAny_bind (m := Builtin.Tuple.tupleExact _) (wpAny_newObj_type (wpAny_bind (wpAny_pure (wpAny_pure ⟨_, rfl, wpAny_pure h⟩))) big)
    | exact wpAny_bind (wpAny_bind (m := Builtin.Tuple.tupleExact _) (wpAny_newObj_type (wpAny_pure (wpAny_pure ⟨_, rfl, wpAny_pure h⟩)) big))
    | exact wpAny_bind (wpAny_bind (m := Builtin.Tuple.tupleExact _) (wpAny_newObj_type (wpAny_pure ⟨_, rfl, wpAny_pure h⟩) big))
end
def tRevA (K : PySem.W.Frag) (te : TE) : TE := fun σ H Q => te σ H fun x H1 => ∃ a xs, x = .ref a ∧ ((SqL K H1 a xs ∧ ∀ p, H1 p = none → Q (.ref p) (upd H1 p (.lst xs.reverse))) ∨ (SqT K H1 a xs ∧ ∀ p, H1 p = none → Q (.ref p) (upd H1 p (.tup xs.reverse))))
theorem pe_revA {X : Cx} {e : Expr} {te : TE} {k : Nat} {p1 p2 p3 pos : Pos} (he : PE X e te) : PE X (.Subscript e (.Slice none none (some (.UnaryOp .USub (.Constant (.int 1) k p1) p2)) p3) pos) (tRevA X.K te) := by
  refine ⟨fun pins s σ H Q I h => ?_⟩
  refine Subscript_ (thn (he.run pins s σ H _ I h) fun v s1 ⟨x, H1, I1, r1, a, xs, ex, q1⟩ => ?_)
  subst ex
  cases r1
  have back : PO X (some (.UnaryOp .USub (.Constant (.int 1) k p1) p2)) (tPart (tUn (rU fun i => .int (-i)) (tC (.int 1)))) := po_some (pe_un un_neg pe_int)
  refine wpAny_Slice (thn (po_none.run pins s1 σ H1 (fun o H2 => o = none ∧ H2 = H1) I1 ⟨rfl, rfl⟩) fun vl s2 ⟨l, H2, I2, pl, el, e2⟩ => ?_)
  subst el e2
  refine thn (po_none.run pins s2 σ H2 (fun o H3 => o = none ∧ H3 = H2) I2 ⟨rfl, rfl⟩) fun vu s3 ⟨u, H3, I3, pu, eu, e3⟩ => ?_
  subst eu e3
  refine thn (back.run pins s3 σ H3 (fun o H4 => o = some (-1) ∧ H4 = H3) I3 ⟨1, rfl, -1, rfl, rfl, rfl⟩) fun vs s4 ⟨o, H4, I4, ps, eo, e4⟩ => ?_
  subst eo e4
  have I5 : Inv X pins σ H4 { s4 with heap := s4.heap.push { cls := .type "slice", data := .fields #[vl, vu, vs] } } := I4.kept (t' := s4.toks) fun b ob q => Heap.get?_push_of_some _ q
  show wpAny (model X.prog X.w) X.A (subscriptTail e (.Slice none none (some (.UnaryOp .USub (.Constant (.int 1) k p1) p2)) p3) (.ref a) (.ref s4.heap.objs.size)) (EP X pins σ Q) X.xe { s4 with heap := s4.heap.push { cls := .type "slice", data := .fields #[vl, vu, vs] } }
  rcases q1 with ⟨hx, q⟩ | ⟨hx, q⟩
  · obtain ⟨its, r, ht, hz⟩ := I5.list hx
    have hl := r.length
    refine tail_any (ops := [.ref a, .ref s4.heap.objs.size]) ht.isList.typeIs (PySem.slot_list_getitem.lookup) ?_ (by with_unfolding_all rfl)
    refine wpAny_getItem_list_slice ht.isList (Heap.IsSliceOf.new _ vl vu vs) pl pu ps (by decide) ?_ (by rw [List.size_toArray]; omega)
    rw [PySem.W.krv_pick]
    exact ⟨.ref _, _, I5.laid (t' := s4.toks) (o := .lst xs.reverse) (fun b ob q => Heap.get?_push_of_some _ q) (Nat.le_refl _) ⟨by rw [List.length_reverse]; exact hz, _, 0, r.reverse, Heap.get?_push_size _ rfl⟩, rfl, q _ (I5.hok.fresh (Nat.le_refl _))⟩
  · obtain ⟨its, r, ht, hz⟩ := I5.tuple hx
    have hl := r.length
    refine tail_any (ops := [.ref a, .ref s4.heap.objs.size]) ht.typeIs PyProof.Rows.slot_tuple_getitem.lookup ?_ (by with_unfolding_all rfl)
    refine item_back ht (Heap.IsSliceOf.new _ vl vu vs) pl pu ps ?_ (by rw [List.size_toArray]; omega)
    exact ⟨.ref _, _, I5.laid (t' := s4.toks) (o := .tup xs.reverse) (fun b ob q => Heap.get?_push_of_some _ q) (Nat.le_refl _) ⟨by rw [List.length_reverse]; exact hz, _, r.reverse, IsTup.new _ _⟩, rfl, q _ (I5.hok.fresh (Nat.le_refl _))⟩
def eRev (m : Bool) (f : Ev) : Ev := fun ρ S => (f ρ S).bind fun v S1 => match view S1 v with
  | some (.list ds) => mkL m ds.reverse S1
  | some (.tuple ds) => .ok (.d (.tuple ds.reverse)) S1
  | _ => .bad
@[simp] theorem ap_eRev {m : Bool} {f : Ev} {ρ : Env} {S : Store} : eRev m f ρ S = (f ρ S).bind fun v S1 => match view S1 v with
  | some (.list ds) => mkL m ds.reverse S1
  | some (.tuple ds) => .ok (.d (.tuple ds.reverse)) S1
  | _ => .bad := rfl
theorem de_rev {X : Cx} {W : WX} {e : Expr} {f : Ev} {k : Nat} {p1 p2 p3 pos : Pos} (m : Bool) (h : DE τ X W e f) : DE τ X W (.Subscript e (.Slice none none (some (.UnaryOp .USub (.Constant (.int 1) k p1) p2)) p3) pos) (eRev m f) :=
  ⟨PE.mono (pe_revA h.r) fun σ H Q ⟨φ, F, ρ, S, g, sl, p⟩ => ⟨φ, F, ρ, S, g, sl, PostG.bind g p fun φ1 F1 H1 S1 v x nw1 r1 p1 => by
    split at p1
    · rename_i ds e
      obtain ⟨a, ys, rfl, h1, h2⟩ := ob_of nw1.sg r1 e
      exact ⟨a, ys, rfl, .inl ⟨.inl (.inl h1), Post.newL nw1.sg h2.rev p1⟩⟩
    · rename_i ds e
      obtain ⟨a, ys, rfl, h1, h2⟩ := ob_of nw1.sg r1 e
      exact ⟨a, ys, rfl, .inr ⟨h1.sq, Post.newT nw1.sg h2.rev p1⟩⟩
    · exact p1.elim⟩⟩
def gBad : Fn := fun _ _ => .bad
theorem def_bad {P : Program} {w : World} {K : PySem.W.Frag} {mg : Str → Option Value} {base : Heap} {x y : Str} {st : Stmt} {ps : List Str} {k n : Nat} (Fu : DefF K mg x y st) (hn : ps.length = n)
    (bi : ∀ (kV doc pm : Value) (an : Option Addr) (cdv ct : Value) (us : List Value), us.length = ps.length → bindArgs (PySem.W.fnOf y y (defArgs st) (defBody st) (defScope st) .none kV doc pm an cdv ct) ⟨us, []⟩ = pure (ps.zip us)) : DefOk τ P w K mg base k n x gBad := by
  obtain ⟨f, oc, od, kV, doc, pm, an, cdv, ct, osl, h1, h2, h3, h4⟩ := Fu.ex
  have F := fun_mk (st := st) h2 h3 h4
  subst hn
  refine ⟨f, _, ps, ⟨fun vs H Q E h => h.1, fun B fs s H as us vs Q E _ _ _ _ _ h => ?_⟩, h1, h4, F.binds bi⟩
  obtain ⟨_, φ, F, xs, S, g, r, p⟩ := h
  exact (show False from p).elim
theorem def_rec {P : Program} {w : World} {K : PySem.W.Frag} {mg : Str → Option Value} {base : Heap} {x y : Str} {st : Stmt} {N ps : List Str} {k n : Nat} {b : Fn → Sv} {g : Nat → Fn} (g0 : g 0 = gBad) (gs : ∀ m, g (m + 1) = fnOf N.length (b (g m))) (Fu : DefF K mg x y st) (Sc : FnScope N ps (defScope st)) (hn : ps.length = n)
    (bi : ∀ (kV doc pm : Value) (an : Option Addr) (cdv ct : Value) (us : List Value), us.length = ps.length → bindArgs (PySem.W.fnOf y y (defArgs st) (defBody st) (defScope st) .none kV doc pm an cdv ct) ⟨us, []⟩ = pure (ps.zip us))
    (body : ∀ (m : Nat) (rc : Fn), DefOk τ P w K mg base (k + m) n x rc → ∀ (f : Addr) (cdv : Value) (B : Around) (fs : List PySem.Env) (s : Shared) (H : Hp) (E : XK), Cc (cxD P w K mg base N y st f cdv B fs s H E) (wD E) (k + m) → DB τ (cxD P w K mg base N y st f cdv B fs s H E) (wD E) (defBody st) (b rc)) :
    ∀ m, DefOk τ P w K mg base (k + m) n x (g m)
  | 0 => by rw [g0]; exact def_bad Fu hn bi
  | m + 1 => by
    rw [gs]
    exact def_ok Fu Sc hn bi (body m (g m) (def_rec g0 gs Fu Sc hn bi body m))
def eDic0 (m : Bool) : Ev := fun _ S => mkK m [] S
@[simp] theorem ap_eDic0 {m : Bool} {ρ : Env} {S : Store} : eDic0 m ρ S = mkK m [] S := rfl
theorem de_dic0 {X : Cx} {W : WX} {pos : Pos} (m : Bool) : DE τ X W (.Dict [] [] pos) (eDic0 m) := ⟨PE.mono pe_dnewK fun σ H Q ⟨φ, F, ρ, S, g, sl, p⟩ => Post.newK g .nil p⟩
def rSortL (K : PySem.W.Frag) : List V → Hp → VK → Prop := fun vs H Q => ∃ a xs ds, vs = [.ref a] ∧ SqL K H a xs ∧ DpAll K H xs ds ∧ PyData.plainAll ds = true ∧ PyData.depthAll ds ≤ 60 ∧ sortB ds = true ∧ ds.length ≤ sizeLine ∧
  ∀ ps : List (V × D), ps.Perm (xs.zip ds) → ps.map (·.2) = sortD ds → ∀ l, H l = none → Q (.ref l) (upd H l (.lst (ps.map (·.1))))
theorem each_rel : ∀ {xs : List V} {its : List Value} {ds : List D}, Vals xs its → xs.length = ds.length → PySem.W.EachIs (fun v (b : V × D) => RelV b.1 v) its (xs.zip ds)
  | _, _, [], .nil, _ => .nil
  | _, _, [], .cons _ _, h => by simp at h
  | _, _, d :: ds, .nil, h => by simp at h
  | _, _, d :: ds, .cons r t, h => .cons r (each_rel t (by simpa using h))
theorem each_reads {hp : Heap} : ∀ {xs : List V} {its : List Value} {ds : List D} {as : List Addr}, ReadsAll hp its ds as → xs.length = ds.length → PySem.W.EachIs (fun v (b : V × D) => ∃ as, Reads hp v b.2 as) its (xs.zip ds)
  | [], _, [], _, .nil, _ => .nil
  | x :: xs, _, d :: ds, _, .cons r t, h => .cons ⟨_, r⟩ (each_reads t (by simpa using h))
theorem readsAll_len {hp : Heap} : ∀ {its : List Value} {ds : List D} {as : List Addr}, ReadsAll hp its ds as → its.length = ds.length
  | _, _, _, .nil => rfl
  | _, _, _, .cons _ t => by rw [List.length_cons, List.length_cons, readsAll_len t]
theorem vals_each : ∀ {out : List Value} {bs : List (V × D)}, PySem.W.EachIs (fun v (b : V × D) => RelV b.1 v) out bs → Vals (bs.map (·.1)) out
  | _, _, .nil => .nil
  | _, _, .cons h t => .cons h (vals_each t)
theorem call_sortL {X : Cx} (hu : X.A.units + 64 < cLine) : CallR X (.builtin "sorted") (rSortL X.K) := by
  intro pins s σ H xs us Q I r h
  obtain ⟨a, ys, ds, rfl, hq, hd, hp, hdp, hs, hl, q⟩ := h
  obtain ⟨u, rfl, ru⟩ := vals1 r
  obtain rfl : u = Value.ref a := ru
  obtain ⟨its, rv, p, hz⟩ := I.list hq
  obtain ⟨as, rd⟩ := Dp.readsAll I ds _ its hd rv
  have hlen : ys.length = ds.length := by rw [rv.length, readsAll_len rd]
  have e1 := each_rel (ds := ds) rv hlen
  have e2 := each_reads rd hlen
  have em : (ys.zip ds).map (fun b : V × D => b.2) = ds := by
    rw [show (fun b : V × D => b.2) = Prod.snd from rfl, List.map_snd_zip (by omega)]
  obtain ⟨hal, hk⟩ := sortB_p hs
  have hzl : (ys.zip ds).length = ds.length := by rw [List.length_zip]; omega
  refine PySem.W.sorted_data (bs := ys.zip ds) (enc := fun b => b.2) (R := fun v (b : V × D) => RelV b.1 v) p.isList e1 e2 (by rw [em]; exact hal) (by rw [em]; exact hk) (by rw [hzl]; exact hl) (fun b hb => ?_) fun out ho eo => ?_
  · have hb2 : b.2 ∈ ds := (List.of_mem_zip hb).2
    have := PyData.depth_le_depthAll ds b.2 hb2
    omega
  · obtain ⟨ep, he'⟩ := PyProof.Rows.sortedAll_at s.heap its out.toArray
    have ve := vals_each eo
    have perm : ((ys.zip ds).mergeSort (PySem.W.dataLe false fun b => b.2)).Perm (ys.zip ds) := List.mergeSort_perm _ _
    have le : (((ys.zip ds).mergeSort (PySem.W.dataLe false fun b => b.2)).map (·.1)).length ≤ sizeLine := by rw [List.length_map, perm.length_eq, hzl]; exact hl
    have sm : ((ys.zip ds).mergeSort (PySem.W.dataLe false fun b => b.2)).map (·.2) = sortD ds := by
      unfold sortD
      have q := List.map_mergeSort (r := PySem.W.dataLe false fun b : V × D => b.2) (s := PySem.W.dataLe false fun d : D => d) (f := fun b : V × D => b.2) (l := ys.zip ds) (fun _ _ _ _ => rfl)
      rw [q, em]
    exact ⟨.ref _, _, I.laid (t' := s.toks) (o := .lst _) (fun _ _ => PyProof.Rows.sortedAll_old) (Nat.le_succ _) ⟨le, out, ep, ve, he'⟩, rfl, q _ perm sm _ (I.hok.fresh (Nat.le_succ _))⟩
def fSortL (m : Bool) : Fn := fun vs S => match vs with
  | [v] => match view S v with
    | some (.list ds) => if (seqOk ds && sortB ds && decide (ds.length ≤ sizeLine)) = true then mkL m (sortD ds) S else .bad
    | _ => .bad
  | _ => .bad
theorem fz_of {K : PySem.W.Frag} {F : Addr → Prop} {H : Hp} {xs : List V} {ds : List D} (f : FzAll K F H xs ds) {ps : List (V × D)} (hp : ps.Perm (xs.zip ds)) (he : ps.map (·.2) = sortD ds) : FzAll K F H (ps.map (·.1)) (sortD ds) := by
  have all : ∀ q ∈ ps, Fz K F H q.1 q.2 := fun q hq => by
    obtain ⟨i, hi⟩ := List.mem_iff_getElem?.mp (hp.mem_iff.mp hq)
    rw [List.getElem?_zip_eq_some] at hi
    obtain ⟨v, h3, h4⟩ := f.get hi.2
    rw [hi.1] at h3
    cases h3
    exact h4
  have go : ∀ qs : List (V × D), (∀ q ∈ qs, Fz K F H q.1 q.2) → FzAll K F H (qs.map (·.1)) (qs.map (·.2)) := fun qs => by
    induction qs with
    | nil => intro _; exact .nil
    | cons q qs ih => intro h; exact .cons (h q List.mem_cons_self) (ih fun r hr => h r (List.mem_cons_of_mem _ hr))
  rw [← he]
  exact go ps all
theorem ok_sortL {K : PySem.W.Frag} {mg : Str → Option Value} {m : Bool} : CallOk τ K mg (rSortL K) (fSortL m) := by
  intro φ F H S xs vs Q W g r p
  unfold fSortL at p
  split at p
  · rename_i v
    obtain ⟨x, rfl, r1⟩ := reps1 r
    split at p
    · rename_i ds e
      obtain ⟨a, ys, rfl, h1, h2⟩ := ob_of g r1 e
      by_cases hl : (seqOk ds && sortB ds && decide (ds.length ≤ sizeLine)) = true
      · rw [if_pos hl] at p
        have h3 : (seqOk ds = true ∧ sortB ds = true) ∧ ds.length ≤ sizeLine := by simpa using hl
        obtain ⟨h4, h5⟩ := seqOk_p h3.1.1
        exact ⟨a, ys, ds, rfl, .inl (.inl h1), FzAll.dp _ _ h2 h4, h4, h5, h3.1.2, h3.2, fun ps hp he l hl => Post.newL g (fz_of h2 hp he) p l hl⟩
      · rw [if_neg hl] at p; exact p.elim
    · exact p.elim
  · exact p.elim
def eChain3 (o o' o'' : Vl → Vl → Store → Res Vl) (fa fb fc fd : Ev) : Ev := fun ρ S => (fa ρ S).bind fun a S1 => (fb ρ S1).bind fun b S2 => (o a b S2).bind fun z S3 => match z with
  | .d (.bool k) => if k = true then (fc ρ S3).bind fun c S4 => (o' b c S4).bind fun z' S5 => match z' with
      | .d (.bool k') => if k' = true then (fd ρ S5).bind fun d S6 => o'' c d S6 else .ok (.d (.bool false)) S5
      | _ => .bad
    else .ok (.d (.bool false)) S3
  | _ => .bad
def tChain3 (r r' r'' : R2) (ta tb tc td : TE) : TE := fun σ H Q => ta σ H fun x H1 => tb σ H1 fun y H2 => r x y H2 fun z H3 => ∃ k, z = .bl k ∧
  if k = true then tc σ H3 fun u H4 => r' y u H4 fun z' H5 => ∃ k', z' = .bl k' ∧ if k' = true then td σ H5 fun v H6 => r'' u v H6 Q else Q (.bl false) H5 else Q (.bl false) H3
section
variable {X : Cx} {a b c d : Expr} {ta tb tc td : TE} {pos : Pos} {op op' op'' : CmpOp} {r r' r'' : R2}
theorem pe_chain3 (ho : OpR X (compareOp op) r) (ho' : OpR X (compareOp op') r') (ho'' : OpR X (compareOp op'') r'') (ha : PE X a ta) (hb : PE X b tb) (hc : PE X c tc) (hd : PE X d td) (hm : lastMarks [op, op', op''] [b, c, d] = false) :
    PE X (.Compare a [op, op', op''] [b, c, d] pos) (tChain3 r r' r'' ta tb tc td) := by
  refine ⟨fun pins s σ H Q I h => ?_⟩
  refine Compare_chain (thn (ha.run pins s σ H _ I h) fun v s1 ⟨x, H1, I1, r1, q1⟩ => chain_link (thn (hb.run pins s1 σ H1 _ I1 q1) fun u s2 ⟨y, H2, I2, r2, q2⟩ =>
    thn (ho pins s2 σ H2 x y v u _ I2 r1 r2 q2) fun _ s3 ⟨z, H3, I3, r3, k, e, q3⟩ => ?_)) hm
  subst e
  cases r3
  refine wpAny_truthy_bool ?_
  cases k with
  | false => exact ite_ff ⟨.bl false, H3, I3, rfl, q3⟩
  | true =>
    refine ite_tt (chain_link (thn (hc.run pins s3 σ H3 _ I3 q3) fun w' s4 ⟨z', H4, I4, r4, q4⟩ => thn (ho' pins s4 σ H4 y z' u w' _ I4 r2 r4 q4) fun _ s5 ⟨z2, H5, I5, r5, k2, e2, q5⟩ => ?_))
    subst e2
    cases r5
    refine wpAny_truthy_bool ?_
    cases k2 with
    | false => exact ite_ff ⟨.bl false, H5, I5, rfl, q5⟩
    | true => exact ite_tt (chain_last (thn (hd.run pins s5 σ H5 _ I5 q5) fun w2 s6 ⟨z3, H6, I6, r6, q6⟩ => ho'' pins s6 σ H6 z' z3 w' w2 Q I6 r4 r6 q6))
theorem pt_chain3 (ho : OpR X (compareOp op) r) (ho' : OpR X (compareOp op') r') (ho'' : OpR X (compareOp op'') r'') (ha : PE X a ta) (hb : PE X b tb) (hc : PE X c tc) (hd : PE X d td) (hm : lastMarks [op, op', op''] [b, c, d] = false) :
    PT X (.Compare a [op, op', op''] [b, c, d] pos) (tTest (tChain3 r r' r'' ta tb tc td)) := by
  refine ⟨fun pins s σ H Q I h => ?_⟩
  refine isTrue_chain (thn (ha.run pins s σ H _ I h) fun v s1 ⟨x, H1, I1, r1, q1⟩ => test_link (thn (hb.run pins s1 σ H1 _ I1 q1) fun u s2 ⟨y, H2, I2, r2, q2⟩ =>
    thn (ho pins s2 σ H2 x y v u _ I2 r1 r2 q2) fun _ s3 ⟨z, H3, I3, r3, k, e, q3⟩ => ?_)) hm
  subst e
  cases r3
  refine wpAny_truthy_bool ?_
  cases k with
  | false =>
    obtain ⟨k', e', q'⟩ := q3
    cases e'
    exact ite_ff ⟨H3, I3, q'⟩
  | true =>
    refine ite_tt (test_link (thn (hc.run pins s3 σ H3 _ I3 q3) fun w' s4 ⟨z', H4, I4, r4, q4⟩ => thn (ho' pins s4 σ H4 y z' u w' _ I4 r2 r4 q4) fun _ s5 ⟨z2, H5, I5, r5, k2, e2, q5⟩ => ?_))
    subst e2
    cases r5
    refine wpAny_truthy_bool ?_
    cases k2 with
    | false =>
      obtain ⟨k', e', q'⟩ := q5
      cases e'
      exact ite_ff ⟨H5, I5, q'⟩
    | true =>
      refine ite_tt (test_last (thn (hd.run pins s5 σ H5 _ I5 q5) fun w2 s6 ⟨z3, H6, I6, r6, q6⟩ => thn (ho'' pins s6 σ H6 z' z3 w' w2 _ I6 r4 r6 q6) fun _ s7 ⟨z4, H7, I7, r7, k3, e3, q7⟩ => ?_))
      subst e3
      cases r7
      exact wpAny_truthy_bool ⟨H7, I7, q7⟩
end
section
variable {X : Cx} {W : WX} {a b c d : Expr} {fa fb fc fd : Ev} {pos : Pos} {op op' op'' : CmpOp} {r r' r'' : R2} {o o' o'' : Vl → Vl → Store → Res Vl}
theorem rechain3 (ok : OpOk τ X.K X.mg r o) (ok' : OpOk τ X.K X.mg r' o') (ok'' : OpOk τ X.K X.mg r'' o'') {σ : L2.St} {H : Hp} {Q : VK} (h : RE τ X.K X.mg W (eChain3 o o' o'' fa fb fc fd) σ H Q) : tChain3 r r' r'' (RE τ X.K X.mg W fa) (RE τ X.K X.mg W fb) (RE τ X.K X.mg W fc) (RE τ X.K X.mg W fd) σ H Q := by
  obtain ⟨φ, F, ρ, S, g, sl, p⟩ := h
  refine ⟨φ, F, ρ, S, g, sl, PostG.bind g p fun φ1 F1 H1 S1 v x nw1 r1 p1 => ⟨φ1, F1, ρ, S1, nw1.sg, sl.now nw1, PostG.bind nw1.sg p1 fun φ2 F2 H2 S2 u y nw2 r2 p2 => ?_⟩⟩
  refine ok nw2.sg (r1.now nw2) r2 (PostG.bind (R' := RepV X.K X.mg) nw2.sg p2 fun φ3 F3 H3 S3 z zv nw3 r3 p3 => ?_)
  have sl3 := ((sl.now nw1).now nw2).now nw3
  cases z with
  | d zd =>
    cases zd with
    | bool kb =>
      cases r3
      refine ⟨kb, rfl, ?_⟩
      cases kb with
      | true =>
        simp only [if_true] at p3 ⊢
        refine ⟨φ3, F3, ρ, S3, nw3.sg, sl3, PostG.bind nw3.sg p3 fun φ4 F4 H4 S4 w q nw4 r4 p4 => ?_⟩
        refine ok' nw4.sg ((r2.now nw3).now nw4) r4 (PostG.bind (R' := RepV X.K X.mg) nw4.sg p4 fun φ5 F5 H5 S5 z2 zv2 nw5 r5 p5 => ?_)
        cases z2 with
        | d zd2 =>
          cases zd2 with
          | bool kb2 =>
            cases r5
            refine ⟨kb2, rfl, ?_⟩
            cases kb2 with
            | true =>
              simp only [if_true] at p5 ⊢
              exact ⟨φ5, F5, ρ, S5, nw5.sg, (sl3.now nw4).now nw5, PostG.bind nw5.sg p5 fun φ6 F6 H6 S6 w2 q2 nw6 r6 p6 => ok'' nw6.sg ((r4.now nw5).now nw6) r6 p6⟩
            | false => exact Post.ok nw5.sg p5 (.bl false)
          | _ => exact p5.elim
        | _ => exact p5.elim
      | false => exact Post.ok nw3.sg p3 (.bl false)
    | _ => exact p3.elim
  | _ => exact p3.elim
theorem de_chain3 (ho : OpR X (compareOp op) r) (ok : OpOk τ X.K X.mg r o) (ho' : OpR X (compareOp op') r') (ok' : OpOk τ X.K X.mg r' o') (ho'' : OpR X (compareOp op'') r'') (ok'' : OpOk τ X.K X.mg r'' o'') (ha : DE τ X W a fa) (hb : DE τ X W b fb) (hc : DE τ X W c fc) (hd : DE τ X W d fd)
    (hm : lastMarks [op, op', op''] [b, c, d] = false := by rfl) : DE τ X W (.Compare a [op, op', op''] [b, c, d] pos) (eChain3 o o' o'' fa fb fc fd) := ⟨PE.mono (pe_chain3 ho ho' ho'' ha.r hb.r hc.r hd.r hm) fun _ _ _ h => rechain3 ok ok' ok'' h⟩
theorem dt_chain3 (ho : OpR X (compareOp op) r) (ok : OpOk τ X.K X.mg r o) (ho' : OpR X (compareOp op') r') (ok' : OpOk τ X.K X.mg r' o') (ho'' : OpR X (compareOp op'') r'') (ok'' : OpOk τ X.K X.mg r'' o'') (ha : DE τ X W a fa) (hb : DE τ X W b fb) (hc : DE τ X W c fc) (hd : DE τ X W d fd)
    (hm : lastMarks [op, op', op''] [b, c, d] = false := by rfl) : DT τ X W (.Compare a [op, op', op''] [b, c, d] pos) (tOf (eChain3 o o' o'' fa fb fc fd)) := ⟨PT.mono (pt_chain3 ho ho' ho'' ha.r hb.r hc.r hd.r hm) fun _ _ _ h => tof h fun _ h => rechain3 ok ok' ok'' h⟩
@[simp] theorem ap_eChain3 {ρ : Env} {S : Store} : eChain3 o o' o'' fa fb fc fd ρ S = (fa ρ S).bind fun a S1 => (fb ρ S1).bind fun b S2 => (o a b S2).bind fun z S3 => match z with
  | .d (.bool k) => if k = true then (fc ρ S3).bind fun c S4 => (o' b c S4).bind fun z' S5 => match z' with
      | .d (.bool k') => if k' = true then (fd ρ S5).bind fun d S6 => o'' c d S6 else .ok (.d (.bool false)) S5
      | _ => .bad
    else .ok (.d (.bool false)) S3
  | _ => .bad := rfl
end
def tysOf : List Vl → Option (List Ty)
  | [] => some []
  | .ty T :: vs => (tysOf vs).map fun Ts => T :: Ts
  | _ => none
def eTys (f : Av) : Ev := fun ρ S => (f ρ S).bind fun vs S1 => match tysOf vs with
  | some Ts => if Ts.length ≤ 1000 then .ok (.tys Ts) S1 else .bad
  | none => .bad
@[simp] theorem ap_eTys {f : Av} {ρ : Env} {S : Store} : eTys f ρ S = (f ρ S).bind fun vs S1 => match tysOf vs with
  | some Ts => if Ts.length ≤ 1000 then .ok (.tys Ts) S1 else .bad
  | none => .bad := rfl
theorem tys_of {K : PySem.W.Frag} {mg : Str → Option Value} {φ : Nat → Addr} {F : Addr → Prop} {H : Hp} {n : Nat} : ∀ {xs : List V} {vs : List Vl} {Ts : List Ty}, RepVs K mg φ F H n xs vs → tysOf vs = some Ts → xs = Ts.map fun T => V.ty T.name
  | [], [], Ts, _, h => by cases h; rfl
  | x :: xs, v :: vs, Ts, r, h => by
    cases v with
    | ty T =>
      simp only [tysOf, Option.map_eq_some_iff] at h
      obtain ⟨Us, h1, rfl⟩ := h
      rw [tys_of r.2 h1, show x = V.ty T.name from r.1]
      rfl
    | _ => simp [tysOf] at h
  | [], _ :: _, _, r, _ => r.elim
  | _ :: _, [], _, r, _ => r.elim
theorem de_tys {X : Cx} {W : WX} {es : List Expr} {fs : Av} {kk : Nat} {pos : Pos} (h : DA τ X W es fs) : DE τ X W (.Tuple es kk pos) (eTys fs) := ⟨PE.mono (pe_tup h.r) fun σ H Q ⟨φ, F, ρ, S, g, sl, p⟩ => ⟨φ, F, ρ, S, g, sl, PostG.bind g p fun φ1 F1 H1 S1 vs xs nw1 r1 p1 => by
  split at p1
  · rename_i Ts q
    by_cases hl : Ts.length ≤ 1000
    · rw [if_pos hl] at p1
      have ex := tys_of r1 q
      subst ex
      refine ⟨by rw [List.length_map]; exact line1000 hl, fun t ht => ?_⟩
      have nw2 := nw1.sg.fresh (o := .tup (Ts.map fun T => V.ty T.name)) ht
      exact PostG.start nw1.sg nw2 p1 _ _ _ (.refl nw2.sg) _ ⟨t, rfl, .inr rfl, upd_same⟩
    · rw [if_neg hl] at p1; exact p1.elim
  · exact p1.elim⟩⟩
def dropI (i : Nat) : SRes → SRes
  | .nx ρ S => .nx (ρ.set i none) S
  | .bk ρ S => .bk (ρ.set i none) S
  | .ct ρ S => .ct (ρ.set i none) S
  | .ret v S => .ret v S
  | _ => .bad
open Classical in
noncomputable def pickA (f : Addr → SRes) : SRes := if h : ∃ r, ∀ a, f a = r then Classical.choose h else .bad
theorem pickA_of {f : Addr → SRes} {r : SRes} (h : ∀ a, f a = r) : pickA f = r := by
  have ex : ∃ r, ∀ a, f a = r := ⟨r, h⟩
  unfold pickA
  rw [dif_pos ex]
  exact (Classical.choose_spec ex 0).symm.trans (h 0)
theorem pickA_at {f : Addr → SRes} (h : pickA f ≠ .bad) (a : Addr) : f a = pickA f := by
  by_cases ex : ∃ r, ∀ a, f a = r
  · unfold pickA
    rw [dif_pos ex]
    exact Classical.choose_spec ex a
  · exact absurd (by unfold pickA; rw [dif_neg ex]) h
noncomputable def sTryAs (i : Nat) (body : Sv) (sub : Str → Option Bool) (suite : Addr → Xn → Sv) : Sv := fun ρ S => match body ρ S with
  | .ex x ρ1 S1 => match sub x.cls with
    | some true => if x.fs.isEmpty = true then pickA fun a => dropI i (suite a x (ρ1.set i (some (.xa a))) S1) else .bad
    | some false => .ex x ρ1 S1
    | none => .bad
  | r => r
section
variable {X : Cx} {W : WX} {k i : Nat} {x n : Str} {c : Value} {body suite : List Stmt} {b₀ : Stmt} {np pos pos' : Pos} {fb : Sv} {sub : Str → Option Bool} {fs : Addr → Xn → Sv}
theorem Cc.tr {W' : WX} {pn : List (Addr × Obj)} {xe : Value → Shared → Prop} (cc : Cc X W k) (tk : Takes (X.tr pn xe) W') (po : PassesOwn (model X.prog X.w) X.A X.env xe) : Cc (X.tr pn xe) W' k := ⟨cc.calm, cc.nd, tk, cc.rm, po, cc.gd⟩
theorem drop_ends {τ : Tb} {K : PySem.W.Frag} {mg : Str → Option Value} {m : Nat} {φ : Nat → Addr} {F : Addr → Prop} {H : Hp} {D : Ends} {r : SRes} {W' : WX} (p : PostS τ K mg W' m φ F H D (dropI i r)) :
    PostS τ K mg W0 m φ F H { nx := fun σ' H' => D.nx (σ'.set i none) H', rt := D.rt, bk := fun σ' H' => D.bk (σ'.set i none) H', ct := fun σ' H' => D.ct (σ'.set i none) H' } r := by
  have un : ∀ {φ' : Nat → Addr} {F' : Addr → Prop} {H' : Hp} {n : Nat} {σ' : L2.St} {ρ : Env}, Slots K mg φ' F' H' n σ' ρ → Slots K mg φ' F' H' n (σ'.set i none) (ρ.set i none) := fun {φ' F' H' n σ' ρ} h => by
    have := h.wiped [i]
    simpa [L2.wipe, wipeE] using this
  cases r with
  | nx ρ S' => exact fun φ' F' H' nw σ' sl => p φ' F' H' nw _ (un sl)
  | bk ρ S' => exact fun φ' F' H' nw σ' sl => p φ' F' H' nw _ (un sl)
  | ct ρ S' => exact fun φ' F' H' nw σ' sl => p φ' F' H' nw _ (un sl)
  | ret v S' => exact fun φ' F' H' nw x rx => p φ' F' H' nw x rx
  | ex e ρ S' => exact (show False from p).elim
  | bad => exact (show False from p).elim
theorem ds_tryAs (cc : Cc X W k) (hi : X.N[i]? = some n) (hln : X.env.kindOf n = some .local) (hc : Names X x c) (hsub : ∀ (y : Str) (cls : Value) (b : Bool), X.mg y = some cls → sub y = some b → PySem.W.exmOne X.K cls c = some b)
    (hb : ∀ (W' : WX) (pn : List (Addr × Obj)) (xe : Value → Shared → Prop), Takes (X.tr pn xe) W' → PassesOwn (model X.prog X.w) X.A X.env xe → DB τ (X.tr pn xe) W' body fb)
    (hsu : ∀ (a : Addr) (oe : Obj) (y : Xn) (cls : Value) (pn : List (Addr × Obj)), X.mg y.cls = some cls → sub y.cls = some true → y.fs = [] → Zc cls none oe → (∃ vs, oe.data = .fields vs) → PSs (X.suite a ((a, oe) :: pn)) (b₀ :: suite) (RS τ X.K X.mg W0 (fs a y)))
    (hs : X.stack = X.env :: X.outer := by rfl) (hf : X.env.frame = some X.env.locals := by rfl) :
    DS τ X W (.Try body [.ExceptHandler (some (.Name x np)) (some n) (b₀ :: suite) pos'] [] [] pos) (sTryAs i fb sub fs) := by
  refine ⟨PS.mono (ps_try_as (i := i) (c := c) (Wout := W) (tb := fun W' => RS τ X.K X.mg W' fb)
    (ts := fun a cls d E σ H => d = none ∧ ∃ y : Xn, X.mg y.cls = some cls ∧ sub y.cls = some true ∧ y.fs = [] ∧ RS τ X.K X.mg W0 (fs a y) E σ H) hs hf cc.nd hi hln hc cc.tk (fun W' pn xe tk po => (hb W' pn xe tk po).r)
    fun a oe cls d pn hz hv => ⟨fun pins s σ H D I ⟨hd, y, h1, h2, h3, h4⟩ => by subst hd; exact (hsu a oe y cls pn h1 h2 h3 hz hv).run pins s σ H D I h4⟩) fun E σ H ⟨φ, F, ρ, S, g, sl, p⟩ => ?_⟩
  refine ⟨φ, F, ρ, S, g, sl, ?_⟩
  unfold sTryAs at p
  cases e : fb ρ S with
  | nx ρ1 S1 => rw [e] at p; exact p
  | ret v S1 => rw [e] at p; exact p
  | bk ρ1 S1 => rw [e] at p; exact p
  | ct ρ1 S1 => rw [e] at p; exact p
  | bad => rw [e] at p; exact p
  | ex y ρ1 S1 =>
    rw [e] at p
    intro φ1 F1 H1 nw cls od rx σ1 sl1
    cases es : sub y.cls with
    | none => simp only [es] at p; exact (show False from p).elim
    | some b =>
      refine ⟨b, hsub _ _ _ rx.1 es, fun hb a ha => ?_, fun hb => ?_⟩
      · subst hb
        simp only [es] at p
        by_cases hem : y.fs.isEmpty = true
        case neg => rw [if_neg hem] at p; exact (show False from p).elim
        rw [if_pos hem] at p
        have hne : pickA (fun a => dropI i (fs a y (ρ1.set i (some (.xa a))) S1)) ≠ .bad := fun z => by rw [z] at p; exact p
        have ea := pickA_at hne a
        rw [← ea] at p
        have p1 := PostS.start g nw p
        have hfs : y.fs = [] := List.isEmpty_iff.mp hem
        have hod : od = none := by
          have := rx.2
          rw [hfs] at this
          exact this
        exact ⟨hod, y, rx.1, es, hfs, φ1, F1, _, S1, nw.sg, sl1.set (x := .xa a) rfl, drop_ends p1⟩
      · subst hb
        simp only [es] at p
        exact p φ1 F1 H1 nw cls od rx σ1 sl1
end
def eIsE (i : Nat) (a : Addr) (b : Bool) : Ev := fun ρ S => match ρ[i]? with
  | some (some (.xa a')) => if a' = a then .ok (.d (.bool b)) S else .bad
  | _ => .bad
@[simp] theorem ap_eIsE {i : Nat} {a : Addr} {b : Bool} {ρ : Env} {S : Store} : eIsE i a b ρ S = match ρ[i]? with
  | some (some (.xa a')) => if a' = a then .ok (.d (.bool b)) S else .bad
  | _ => .bad := rfl
theorem de_isE {X : Cx} {a D : Addr} {oe : Obj} {pn : List (Addr × Obj)} {n : Str} {i : Nat} {e2 : Expr} {c : V} {cv : Value} {b : Bool} {p p1 pos : Pos} (C : ExcC X.K D) (hz : Zc (.ref D) none oe) (hf : ∃ vs, oe.data = .fields vs) (hN : X.N[i]? = some n) (hvis : Vis X.env.scope n)
    (he2 : PE (X.suite a ((a, oe) :: pn)) e2 (tC c)) (hcv : ∀ u, RelV c u → u = cv) (hk : PySem.W.kitOne X.K (.ref D) cv = some b) (hg : Gl X "isinstance") (hm : X.mg "isinstance" = none)
    (hd : (n == ("__debug__" : Str)) = false := by decide) (hcd : (n == ("__classdict__" : Str)) = false := by decide)
    (h1 : starEach [.Name n p1, e2] X.env = (false, eval (.Name n p1) X.env) :: starEach [e2] X.env := by rfl) (h2 : starEach [e2] X.env = (false, eval e2 X.env) :: starEach [] X.env := by rfl) (h3 : (backTo pos (starEach [e2] X.env)).any (·.1) = false := by rfl) :
    DE τ (X.suite a ((a, oe) :: pn)) W0 (.Call (.Name "isinstance" p) [.Name n p1, e2] [] pos) (eIsE i a b) :=
  ⟨PE.mono (pe_callB (call_isE C hz hf) hg hm bb_isinstance (pa_cons (pe_var hN hvis hd hcd) (pa_cons he2 pa_nil h2) h1) (by decide) (by decide) h1 h3) fun σ H Q ⟨φ, F, ρ, S, g, sl, q⟩ => by
    unfold eIsE at q
    split at q
    · rename_i a' e
      by_cases ea : a' = a
      · subst ea
        rw [if_pos rfl] at q
        obtain ⟨v, hv1, hv2⟩ := sl.2 i _ e
        obtain rfl : v = .ref a' := hv2
        exact ⟨_, hv1, c, cv, b, rfl, hcv, hk, Post.ok g q (.bl b)⟩
      · rw [if_neg ea] at q; exact q.elim
    · exact q.elim⟩
def rFind (K : PySem.W.Frag) (k : List D → D → VK → Hp → Prop) : V → List V → Hp → VK → Prop := fun x vs H Q => ∃ a xs ds y d, x = .ref a ∧ vs = [y] ∧ SqL K H a xs ∧ DpAll K H xs ds ∧ Dp K H y d ∧ PyData.plainAll ds = true ∧ PyData.depthAll ds ≤ 60 ∧ d.plain = true ∧ k ds d Q H
def kCount (ds : List D) (d : D) (Q : VK) (H : Hp) : Prop := Q (.int ((ds.countP fun z => PyData.eqv z d : Nat) : Int)) H
def kIndex (ds : List D) (d : D) (Q : VK) (H : Hp) : Prop := ∃ j, SeqAt.dataPlace ds d = some j ∧ Q (.int (j : Nat)) H
theorem mt_countX {X : Cx} (hu : X.A.units + 64 < cLine) : MtR X "list.count" (rFind X.K kCount) := by
  intro pins s σ H x vs v us Q I rx rv h
  obtain ⟨a, xs, ds, y, d, rfl, rfl, hq, hd, hy, h1, h2, h3, q⟩ := h
  cases rx
  obtain ⟨u, rfl, ru⟩ := vals1 rv
  obtain ⟨its, r, p, hz⟩ := I.list hq
  obtain ⟨as, rd⟩ := Dp.readsAll I ds _ its hd r
  obtain ⟨bs, ry⟩ := Dp.reads I d y u hy ru
  exact SeqAt.count_list_data p.isList (by simpa using rd) ry h1 h3 (by omega) ⟨.int _, H, I.kept (t' := s.toks + 1) fun _ _ z => z, ⟨_, rfl⟩, q⟩
theorem mt_indexX {X : Cx} (hu : X.A.units + 64 < cLine) : MtR X "list.index" (rFind X.K kIndex) := by
  intro pins s σ H x vs v us Q I rx rv h
  obtain ⟨a, xs, ds, y, d, rfl, rfl, hq, hd, hy, h1, h2, h3, j, hj, q⟩ := h
  cases rx
  obtain ⟨u, rfl, ru⟩ := vals1 rv
  obtain ⟨its, r, p, hz⟩ := I.list hq
  obtain ⟨as, rd⟩ := Dp.readsAll I ds _ its hd r
  obtain ⟨bs, ry⟩ := Dp.reads I d y u hy ru
  have rd2 : ReadsAll s.heap its.toArray.toList ds as := by simpa using rd
  obtain ⟨hj1, hit, hno⟩ := SeqAt.hit_at rd2 h1 hj
  obtain ⟨⟨cls, dd, data, sl⟩, ho, hc, n, hd'⟩ := p.isList
  simp only at hc hd'
  subst hc hd'
  have small : (j : Int) < 2 ^ 63 - 1 := by
    have e1 : its.toArray.size = xs.length := by rw [List.size_toArray]; exact r.length.symm
    have e2 : sizeLine = 16777216 := by decide
    omega
  exact call_meets F.slot_list_index ⟨_, ho, rfl⟩ F.entry_list_index (F.args_list_index_2 _ _) (SeqAt.list_indexAt a its.toArray n dd sl u _ j hj1 small hit hno)
    ⟨ho, SeqAt.items_plain rd2 ry h1 h3 (by omega), ⟨.int _, H, I.kept (t' := s.toks + 1) fun _ _ z => z, ⟨_, rfl⟩, q⟩⟩
def lstOf (S : Store) (v : Vl) : Option (List D) := match view S v with
  | some (.list ds) => some ds
  | _ => none
def findOk (ds : List D) (d : D) : Bool := seqOk ds && d.plain
def vCount (v u : Vl) (S : Store) : Res Vl := match lstOf S v, view S u with
  | some ds, some d => if findOk ds d = true then .ok (.d (.int ((ds.countP fun z => PyData.eqv z d : Nat) : Int))) S else .bad
  | _, _ => .bad
def vIndex (v u : Vl) (S : Store) : Res Vl := match lstOf S v, view S u with
  | some ds, some d => if findOk ds d = true then match SeqAt.dataPlace ds d with
      | some j => .ok (.d (.int (j : Nat))) S
      | none => .bad
    else .bad
  | _, _ => .bad
def eMet (o : Vl → Vl → Store → Res Vl) (fo fe : Ev) : Ev := fun ρ S => (fo ρ S).bind fun v S1 => if (lstOf S1 v).isSome = true then (fe ρ S1).bind fun u S2 => o v u S2 else .bad
@[simp] theorem ap_eMet {o : Vl → Vl → Store → Res Vl} {fo fe : Ev} {ρ : Env} {S : Store} : eMet o fo fe ρ S = (fo ρ S).bind fun v S1 => if (lstOf S1 v).isSome = true then (fe ρ S1).bind fun u S2 => o v u S2 else .bad := rfl
def MetOk (τ : Tb) (K : PySem.W.Frag) (mg : Str → Option Value) (r : V → List V → Hp → VK → Prop) (o : Vl → Vl → Store → Res Vl) : Prop :=
  ∀ {φ : Nat → Addr} {F : Addr → Prop} {H : Hp} {S : Store} {x y : V} {v u : Vl} {Q : VK} {W : XW}, SG τ K φ F H S → RepV K mg φ F H S.length x v → RepV K mg φ F H S.length y u → Post τ K mg W S.length φ F H Q (o v u S) → r x [y] H Q
theorem find_ok {K : PySem.W.Frag} {mg : Str → Option Value} {k : List D → D → VK → Hp → Prop} {o : Vl → Vl → Store → Res Vl} {g : List D → D → Store → Res Vl} (ho : ∀ v u S, o v u S = match lstOf S v, view S u with
      | some ds, some d => if findOk ds d = true then g ds d S else .bad
      | _, _ => .bad)
    (hk : ∀ {φ : Nat → Addr} {F : Addr → Prop} {H : Hp} {S : Store} {ds : List D} {d : D} {Q : VK} {W : XW}, SG τ K φ F H S → Post τ K mg W S.length φ F H Q (g ds d S) → k ds d Q H) : MetOk τ K mg (rFind K k) o := by
  intro φ F H S x y v u Q W sg r1 r2 p
  rw [ho] at p
  split at p
  · rename_i ds d e1 e2
    by_cases hf : findOk ds d = true
    · rw [if_pos hf] at p
      have hf2 : seqOk ds = true ∧ d.plain = true := by simpa [findOk] using hf
      obtain ⟨h1, h2⟩ := seqOk_p hf2.1
      unfold lstOf at e1
      split at e1
      · rename_i ds' ev
        cases e1
        obtain ⟨a, xs, rfl, h3, h4⟩ := ob_of sg r1 ev
        exact ⟨a, xs, ds, y, d, rfl, rfl, .inl (.inl h3), FzAll.dp _ _ h4 h1, (ob_of sg r2 e2).dp hf2.2, h1, h2, hf2.2, hk sg p⟩
      · cases e1
    · rw [if_neg hf] at p; exact p.elim
  · exact p.elim
theorem ok_count {K : PySem.W.Frag} {mg : Str → Option Value} : MetOk τ K mg (rFind K kCount) vCount := find_ok (g := fun ds d S => .ok (.d (.int ((ds.countP fun z => PyData.eqv z d : Nat) : Int))) S) (fun _ _ _ => rfl) fun {φ F H S ds d Q W} g p => show Q (.int _) H from Post.ok g p (.int _)
theorem ok_index {K : PySem.W.Frag} {mg : Str → Option Value} : MetOk τ K mg (rFind K kIndex) vIndex := find_ok (g := fun ds d S => match SeqAt.dataPlace ds d with
      | some j => .ok (.d (.int (j : Nat))) S
      | none => .bad) (fun _ _ _ => rfl) fun {φ F H S ds d Q W} g p => by
  cases e : SeqAt.dataPlace ds d with
  | none => rw [e] at p; exact p.elim
  | some j => rw [e] at p; exact ⟨j, e, Post.ok g p (.int _)⟩
theorem de_met {X : Cx} {W : WX} {o e : Expr} {fo fe : Ev} {apos cpos : Pos} {name : Str} {id : String} {r : V → List V → Hp → VK → Prop} {ov : Vl → Vl → Store → Res Vl} (slot : Slot "list" name id) (hty : typeOf (.builtin id) = pure (.type "method_descriptor")) (hm : MtR X id r) (ok : MetOk τ X.K X.mg r ov) (ho : DE τ X W o fo) (ha : DA τ X W [e] (aCons fe aNil))
    (hbase : attributeBase o name X.env (eval o X.env) = eval o X.env := by rfl)
    (hfew : ((backTo cpos (starEach [e] X.env)).all (fun x => !x.1) && (backToKw cpos (keywordEach [] X.env)).all (fun x => x.1.isSome) && decide ([e].length + ([] : List Keyword).length + (if ([] : List Keyword).isEmpty then 0 else 1) < 30)) = true := by rfl)
    (hline : (apos.endLine == cpos.line) = true := by rfl) (hs : starEach [e] X.env = (false, eval e X.env) :: starEach [] X.env := by rfl) (hplain : (backTo cpos (starEach [] X.env)).any (·.1) = false := by rfl) :
    DE τ X W (.Call (.Attribute o name apos) [e] [] cpos) (eMet ov fo fe) :=
  ⟨PE.mono (pe_bm PySem.F.plainAttrs_list slot hty hm ho.r ha.r hbase hfew hline hs hplain) fun σ H Q ⟨φ, F, ρ, S, g, sl, p⟩ => ⟨φ, F, ρ, S, g, sl, PostG.bind g p fun φ1 F1 H1 S1 v x nw1 r1 p1 => by
    by_cases hl : (lstOf S1 v).isSome = true
    · rw [if_pos hl] at p1
      have ty : tyV X.K "list" x H1 := by
        unfold lstOf at hl
        split at hl
        · rename_i ds ev
          obtain ⟨a, xs, rfl, h3, h4⟩ := ob_of nw1.sg r1 ev
          exact .inl ⟨rfl, xs, .inl (.inl h3)⟩
        · cases hl
      exact ⟨ty, da_one ⟨φ1, F1, ρ, S1, nw1.sg, sl.now nw1, PostG.bind nw1.sg p1 fun φ2 F2 H2 S2 u y nw2 r2 p2 => ok nw2.sg (r1.now nw2) r2 p2⟩⟩
    · rw [if_neg hl] at p1; exact p1.elim⟩⟩
def fReprX : Fn := fun vs S => match vs with
  | [v] => match view S v with
    | some (.dict []) => .ok (.d (.str (PyData.shown (.dict [])))) S
    | _ => fRepr [v] S
  | _ => .bad
def rDic0 : List V → Hp → VK → Prop := fun vs H Q => ∃ a, vs = [.ref a] ∧ H a = some (.dK []) ∧ Q (.str (PyData.shown (.dict []))) H
theorem call_dic0 {X : Cx} (hg : X.A.guards = some []) (hu : X.A.units + 64 < cLine) : CallR X (.builtin "repr") rDic0 := by
  intro pins s σ H xs us Q I r h
  obtain ⟨a, rfl, ha, q⟩ := h
  obtain ⟨u, rfl, ru⟩ := vals1 r
  obtain rfl : u = Value.ref a := ru
  obtain ⟨hz, hS, vs, rel, o, es, ep, e1, ex, e2, ks, prs, nd⟩ : ([] : List (Key × V)).length ≤ sizeLine ∧ (a == sysModules) = false ∧ ∃ vs, KV [] vs ∧ s.heap.DictOf (mixKind X.prog X.w) a vs := I.hok a _ ha
  have hvs : vs = [] := by cases rel; rfl
  subst hvs
  have hes : es.toList = [] := by
    cases h : es.toList with
    | nil => rfl
    | cons x xs => rw [h] at prs; cases prs
  have rd : Reads s.heap (.ref a) (.dict []) [a] := .dict (as := []) (bs := []) e1 ex.1 e2 (by rw [hes]; exact .nil) (by rw [hes]; exact .nil)
  have na : sysModules ∉ [a] := fun z => by
    have e : sysModules = a := by simpa using z
    rw [e] at hS
    simp at hS
  exact repr_of_reads' rd rfl (fun _ => na) hg (by have : (PyData.dict []).depth = 1 := by simp [PyData.depth, PyData.depthKv]
                                                   omega) (fun _ _ e => e) (fun h' u tk hk => ⟨.str _, H, I.kept hk, ⟨_, rfl⟩, q⟩) (by decide)
theorem ok_reprX {K : PySem.W.Frag} {mg : Str → Option Value} : CallOk τ K mg (fun xs H Q => rRepr K xs H Q ∨ rDic0 xs H Q) fReprX := by
  intro φ F H S xs vs Q W g r p
  unfold fReprX at p
  split at p
  · rename_i v
    split at p
    · rename_i e
      obtain ⟨x, rfl, r1⟩ := reps1 r
      obtain ⟨a, kvs, rfl, h1, h2⟩ := ob_of g r1 e
      cases h2
      exact .inr ⟨a, rfl, h1, Post.ok g p (.str _)⟩
    · exact .inl (ok_repr g r p)
  · exact p.elim
theorem call_reprA {X : Cx} (hg : X.A.guards = some []) (hu : X.A.units + 64 < cLine) : CallR X (.builtin "repr") (fun xs H Q => rRepr X.K xs H Q ∨ rDic0 xs H Q) := (call_reprX hg hu).or (call_dic0 hg hu)
theorem reprX_plain {d : D} {S : Store} (h : d.plain = true) : fReprX [.d d] S = fRepr [.d d] S := by
  cases d <;> first | rfl | simp [PyData.plain] at h
theorem rp_reprX {n k : Nat} {d : D} {S : Store} (h : Rp n k d) (hn : n ≤ 16777216) (hk : k ≤ 60) : fReprX [.d d] S = .ok (.d (.str d.shown)) S := by
  rw [reprX_plain h.pl, rp_repr h hn hk]
@[simp] theorem reprX_dic0 {S : Store} : fReprX [.d (.dict [])] S = .ok (.d (.str (PyData.shown (.dict [])))) S := rfl
noncomputable def eAct (p : LamP) (fe : Store → Res Vl) : Ev := fun ρ S => match ρ[0]? with
  | some (some (Vl.lam q)) => open Classical in if q = p then fe S else .bad
  | _ => .bad
@[simp] theorem ap_eAct {p : LamP} {fe : Store → Res Vl} {ρ : Env} {S : Store} (h : ρ[0]? = some (some (Vl.lam p))) : eAct p fe ρ S = fe S := by
  unfold eAct
  rw [h]
  exact if_pos rfl
theorem act_ne {p : LamP} {fe : Store → Res Vl} {ρ : Env} {S : Store} (h : eAct p fe ρ S ≠ .bad) : ρ[0]? = some (some (Vl.lam p)) := by
  unfold eAct at h
  split at h
  · rename_i q e
    by_cases z : q = p
    · rw [e, z]
    · rw [if_neg z] at h; exact absurd rfl h
  · exact absurd rfl h
open Classical in
noncomputable def pickL (f : LamP → Res Vl) : Res Vl := if h : ∃ r, ∀ p, f p = r then Classical.choose h else .bad
theorem pickL_of {f : LamP → Res Vl} {r : Res Vl} (h : ∀ p, f p = r) : pickL f = r := by
  have ex : ∃ r, ∀ p, f p = r := ⟨r, h⟩
  unfold pickL
  rw [dif_pos ex]
  exact (Classical.choose_spec ex ⟨fun _ _ _ _ _ => True, fun _ _ _ h => h⟩).symm.trans (h _)
theorem pickL_at {f : LamP → Res Vl} (h : pickL f ≠ .bad) (p : LamP) : f p = pickL f := by
  by_cases ex : ∃ r, ∀ p, f p = r
  · unfold pickL
    rw [dif_pos ex]
    exact Classical.choose_spec ex p
  · exact absurd (by unfold pickL; rw [dif_neg ex]) h
noncomputable def eLam (g : Ev → Fn) (fb : Ev) : Ev := fun ρ S => pickL fun p => g (eAct p (fb ρ)) [.lam p] S
theorem eLam_of {g : Ev → Fn} {fb : Ev} {ρ : Env} {S : Store} {r : Res Vl} (h : ∀ p, g (eAct p (fb ρ)) [.lam p] S = r) : eLam g fb ρ S = r := pickL_of h
structure Lh (τ : Tb) (X : Cx) : Prop where
  ex : ∃ c P : Addr, X.env.code = .ref c ∧ LamX.TabB X.base X.mg c P ∧ (P, X.env.qual ++ "<lambda>") ∈ τ ∧ ∀ q ∈ τ, q.1 = P → q.2 = X.env.qual ++ "<lambda>"
theorem lam_run {P : Program} {w : World} {K : PySem.W.Frag} {mg : Str → Option Value} {base : Heap} {x q : Str} {st : Stmt} {f : Addr} {fd : FuncData} {N ps : List Str} {k : Nat} (F : Fun K x q st f fd) (S : FnScope N ps (defScope st))
    {B : Around} {fs : List PySem.Env} {s : Shared} {H : Hp} {as : Args} {us : List Value} {vs : List V} {Q : VK} {E : XK} (room : Room (k + 1) B) (env : Env0 P w K mg base B fs s H) (bind : BindsTo s fd as (ps.zip us)) (vals : Vals vs us) (ln : vs.length = ps.length)
    (body : ∀ (cdv : Value), Room k (B.deeper (envOfC q (defScope st) s.heap.objs.size f cdv)) → ∃ t, PSs (cxOf (L2.CX P w) P w K mg base N q (defScope st) f cdv B fs s H E) (defBody st) t ∧ t { nx := fun _ H2 => Q .non H2, rt := Q } (start N vs) H) :
    codeAny (model P w) B (.call (.ref f) as) (CR (L2.CX P w) fs P w H s Q E) s := by
  obtain ⟨oc, od, kV, doc, pm, an, cdv, ct, osl, rfl, look, code⟩ := F.ex
  have inK : K.In s.heap := env.mod.kin.keeps fun b o e => (env.bs b o e).1
  have noLim : s.heap.NoLimit := env.mod.nolimit.keeps fun b o e => (env.bs b o e).1
  refine codeAny_call_function room.depth (inK _ _ look) rfl S.co S.gen rfl (PySem.W.codeRec_of inK code) (bind _ _ _ _ ?_)
  refine wpAny_newFunctionEnv_cells S.kind (fun y hy => ?_) fun ev hev s1 ic => ?_
  · have par := S.par y.1 (List.of_mem_zip (show (y.1, y.2) ∈ ps.zip us from hy)).1
    exact par.imp (fun l => l) fun c => ⟨c, PySem.W.cellsFrom_some _ _ _ (.inl c)⟩
  · subst hev
    refine ⟨noLim.keeps ic.toInCall.keep, codeAny_func ?_⟩
    obtain ⟨t, pss, tq⟩ := body cdv (room.deeper _)
    have J := inv_start (CX := L2.CX P w) (E := E) S room.hd env ln vals ic
    refine wpAny_mono (pss.run [] s1 (start N vs) H _ J tq) (fun fl s2 done => ?_) fun _ _ out => out
    cases fl with
    | ret u =>
      obtain ⟨v, σ2, H2, J2, rv, q2⟩ := done
      exact ⟨v, H2, J2.os, J2.bare, J2.base, J2.hok, rv, q2⟩
    | next =>
      obtain ⟨σ2, H2, J2, q2⟩ := done
      exact ⟨.non, H2, J2.os, J2.bare, J2.base, J2.hok, rfl, q2⟩
    | brk =>
      obtain ⟨_, _, _, z⟩ := done
      exact (show False from z).elim
    | cont =>
      obtain ⟨_, _, _, z⟩ := done
      exact (show False from z).elim
structure LamN (N : List Str) (sc scope : Scope) (ns : List Str) : Prop where
  kind : scope.kind = .function
  co : scope.isCoroutine = false
  gen : scope.isGenerator = false
  own : ∀ y ∈ scope.names, y.2 ≠ .cell ∧ (y.2 = .local → y.1 ∉ N)
  par : ∀ x ∈ ns, scope.names.lookup x = some .local
  free : ∀ y ∈ scope.names, y.2 = .free → sc.names.lookup y.1 = some .cell ∨ sc.names.lookup y.1 = some .free
def lamNB (N : List Str) (sc scope : Scope) (ns : List Str) : Bool :=
  decide (scope.kind = .function) && (!scope.isCoroutine && (!scope.isGenerator && (ns.all (fun x => decide (scope.names.lookup x = some .local)) && scope.names.all fun y => !decide (y.2 = .cell) && ((!decide (y.2 = .local) || !N.contains y.1) && (!decide (y.2 = .free) || (decide (sc.names.lookup y.1 = some .cell) || decide (sc.names.lookup y.1 = some .free)))))))
theorem lamN_by {N : List Str} {sc scope : Scope} {ns : List Str} (h : lamNB N sc scope ns = true) : LamN N sc scope ns := by
  simp only [lamNB, Bool.and_eq_true, Bool.or_eq_true, Bool.not_eq_true', decide_eq_true_eq, decide_eq_false_iff_not, List.all_eq_true] at h
  obtain ⟨a, b, c, d, e⟩ := h
  refine ⟨a, b, c, fun y hy => ⟨(e y hy).1, fun z => ?_⟩, d, fun y hy z => ?_⟩
  · rcases (e y hy).2.1 with w | w
    · exact absurd z w
    · intro m
      have : N.contains y.1 = true := by simpa using m
      rw [this] at w; cases w
  · exact (e y hy).2.2.elim (fun w => absurd z w) id
theorem LamN.has {X : Cx} {scope : Scope} {ns : List Str} (L : LamN X.N X.env.scope scope ns) (ok : X.Ok) : ∀ y ∈ scope.names, y.2 = .free → ∃ c, X.env.cells.lookup y.1 = some c := fun y hy e => ok.has _ (L.free y hy e)
theorem cc_lam {X : Cx} {A : Around} {outer : List PySem.Env} {s : Shared} {H : Hp} {E : XK} {scope : Scope} {f c' : Addr} {k : Nat} (nd : X.N.Nodup) (rm : Room k (A.deeper (LamX.lamEnv X scope s.heap.objs.size f c'))) (gd : A.guards = some []) :
    Cc (LamX.lamCx X A outer s H E scope f c') (wD E) k := ⟨rfl, nd, takes_of rfl rfl rfl rfl, rm, passes_of rfl, gd⟩
theorem lam_begin {X : Cx} {pins : List (Addr × Obj)} {σ : L2.St} {H H1 : Hp} {s s1 : Shared} {A : Around} {outer : List PySem.Env} {E : XK} {scope : Scope} {f c' : Addr} {h1 : Heap} {tk : Nat} {ns : List Str} {m : Str → Option Value} (I : Inv X pins σ H s) (L : LamN X.N X.env.scope scope ns) (env : Env0 X.prog X.w X.K X.mg X.base A outer s1 H1) (hd : A.handled = none)
    (un : Un (L2.frs X.stack) [] H H1 s.heap s1.heap) (own : h1.Ns s1.heap.objs.size m) (up : ∀ b o, s1.heap.get? b = some o → h1.get? b = some o) : Inv (LamX.lamCx X A outer s1 H1 E scope f c') [] σ H1 { s1 with heap := h1, toks := tk } := by
  have has := L.has I.ok
  -- a cell of the lambda is a cell of its maker
  have mine : ∀ {y c}, (cloFrom X.env.cells scope.names []).lookup y = some c → X.env.cells.lookup y = some c := fun {y c} e => by
    rcases cloFrom_mem (PySem.mem_of_lookup e) with z | ⟨z1, z2⟩
    · cases z
    · obtain ⟨d, hd⟩ := has _ z1 rfl
      have hd : X.env.cells.lookup y = some d := hd
      rw [show c = d by rw [z2, hd]; rfl, hd]
  have there : ∀ {y}, scope.names.lookup y = some .free → ∃ c, (cloFrom X.env.cells scope.names []).lookup y = some c := fun {y} e => mem_lookup (cloFrom_has (cells := X.env.cells) (acc := []) (PySem.mem_of_lookup e))
  have cells : ∀ {c : Addr} {v : Option Value}, H c = none → s.heap.IsCell c v → h1.IsCell c v := fun {c v} n ⟨o, e, d⟩ => (un.any e n (by simp)).elim fun sl q => ⟨_, up _ _ q, d⟩
  have noEx : ∀ b : Addr, b ∉ (LamX.lamCx X A outer s1 H1 E scope f c').ex := fun b z => nomatch (show b ∈ ([] : List Addr) from z)
  have okL : Cx.Ok (LamX.lamCx X A outer s1 H1 E scope f c') :=
    { mod := env.mod, kind := L.kind, glob := rfl, blt := rfl, above := Nat.le_refl _, inj := fun x y c e1 e2 => I.ok.inj x y c (mine e1) (mine e2),
      has := fun y hy => by
        have hy : scope.names.lookup y = some .cell ∨ scope.names.lookup y = some .free := hy
        exact hy.elim (fun z => absurd rfl (L.own _ (PySem.mem_of_lookup z)).1) there
      cab := fun y c z _ => (nomatch (show false = true from z)), hd := fun _ => hd, frames := Around.frames_deeper env.frames, stk := .inr ⟨rfl, rfl⟩, exf := fun b z => absurd z (noEx b), bs := env.bs, bsz := env.bsz, noex := fun b _ _ => noEx b,
      exfs := fun b z => absurd z (noEx b), funs := env.funs, frf := env.frf }
  refine ⟨okL, rfl, env.bare, Un.kept up, ⟨m, own, fun i y v e1 e2 vis => ?_⟩, fun y c e => ?_, env.hok.fresh (Nat.le_refl _), fun y c e => ?_, fun q hq => (nomatch (show q ∈ ([] : List (Addr × Obj)) ++ [] from hq)), env.hok.kept up, I.len⟩
  · have vis : Vis scope y := vis
    have e1 : X.N[i]? = some y := e1
    rcases vis with z | z | z
    · exact absurd (List.mem_of_getElem? e1) ((L.own _ (PySem.mem_of_lookup z)).2 rfl)
    · exact absurd rfl (L.own _ (PySem.mem_of_lookup z)).1
    · obtain ⟨m0, _, look⟩ := I.loc
      have outside := L.free _ (PySem.mem_of_lookup z) rfl
      obtain ⟨u, ru, q⟩ := look i y v e1 e2 (outside.elim (fun w => .inr (.inl w)) fun w => .inr (.inr w))
      obtain ⟨c, hc⟩ := there z
      refine ⟨u, ru, .inr ⟨.inr z, c, hc, ?_⟩⟩
      rcases q with ⟨q, _⟩ | ⟨_, d, hd, q⟩
      · have q : X.env.scope.names.lookup y = some .local := q
        rcases outside with w | w <;> · rw [show X.env.scope.names.lookup y = _ from w] at q; cases q
      · have hc2 := mine hc
        rw [hd] at hc2
        cases hc2
        exact cells (I.freeC y _ hd) q
  · obtain ⟨v, q⟩ := I.cell y c (mine e)
    exact ⟨v, cells (I.freeC y c (mine e)) q⟩
  · obtain ⟨v, o, q, _⟩ := I.cell y c (mine e)
    exact un.free c o q (I.freeC y c (mine e)) (by simp)
theorem de_act {X : Cx} {pins : List (Addr × Obj)} {σ : L2.St} {H : Hp} {s : Shared} {N : List Str} {q : Str} {st : Stmt} {g f c' : Addr} {cdv pm ctv dV doc : Value} {params : Arguments} {body : Expr} {scope : Scope} {k : Nat} {a : Str} {W : WX} {E : XK} {fb : Ev} {ρ : Env} {p1 p2 : Pos} {p0 : LamP} {pn : List (Addr × Obj)} {xe : Value → Shared → Prop} {ns : List Str}
    (I : Inv X pins σ H s) (L : LamN X.N X.env.scope scope ns) (ob : s.heap.get? f = some (PySem.W.kdv_obj "<lambda>" (X.env.qual ++ "<lambda>") params (.expr body) scope (cloFrom X.env.cells scope.names []) dV doc pm c' ctv)) (hn : H f = none) (hfr : f ∉ L2.frs X.stack)
    (bnd : ∀ (s2 : Shared), (∀ b o, s.heap.get? b = some o → H b = none → b ∉ L2.frs X.stack → s2.heap.get? b = some o) → ∃ binds : List (Str × Value), (∀ y ∈ binds, y.1 ∈ ns) ∧ BindsTo s2 (PySem.W.kdv_fn "<lambda>" (X.env.qual ++ "<lambda>") params (.expr body) scope (cloFrom X.env.cells scope.names []) dV doc pm (.ref c') ctv) ⟨[], []⟩ binds)
    (tk : Takes ((cxD X.prog X.w X.K X.mg X.base N q st g cdv X.A X.stack s H E).tr pn xe) W) (room : Room (k + 1) (X.A.deeper (envOfC q (defScope st) s.heap.objs.size g cdv)))
    (rd : ∀ (A : Around) (outer : List PySem.Env) (s : Shared) (H : Hp) (E : XK), A.guards = X.A.guards → Room k (A.deeper (LamX.lamEnv X scope s.heap.objs.size f c')) → DE τ (LamX.lamCx X A outer s H E scope f c') (wD E) body fb)
    (tells : ∀ φ F H n v, p0.P φ F H n v → v = .ref f ∧ H c' = some (LamX.CodeO c' (X.env.qual ++ "<lambda>")) ∧ Slots X.K X.mg φ F H n σ ρ)
    (h0 : N[0]? = some a) (vis : Vis (defScope st) a) (d1 : (a == ("__debug__" : Str)) = false) (d2 : (a == ("__classdict__" : Str)) = false) :
    DE τ ((cxD X.prog X.w X.K X.mg X.base N q st g cdv X.A X.stack s H E).tr pn xe) W (.Call (.Name a p1) [] [] p2) (eAct p0 (fb ρ)) := by
  refine ⟨⟨fun pinsZ sZ σZ HZ QZ IZ ⟨φ, F, ρZ, SZ, sg, slZ, post⟩ => ?_⟩⟩
  have nb : eAct p0 (fb ρ) ρZ SZ ≠ .bad := fun e => by rw [e] at post; exact post
  have at0 := act_ne nb
  rw [ap_eAct at0] at post
  obtain ⟨v, hv, rv⟩ := slZ.2 0 _ at0
  obtain ⟨rfl, hc, sl⟩ := tells _ _ _ _ _ rv
  refine wpAny_Call_Name_kw (thn ((pe_var (pos := p1) (i := 0) h0 vis d1 d2).run pinsZ sZ σZ HZ (fun v H1 => v = .ref f ∧ H1 = HZ) IZ ⟨_, hv, rfl, rfl⟩) fun u s1 ⟨v, H1, I1, r1, ev, eH⟩ => ?_)
  subst ev eH
  obtain rfl : u = Value.ref f := r1
  have kept : ∀ b o, s.heap.get? b = some o → H b = none → b ∉ L2.frs X.stack → s1.heap.get? b = some o := fun b o e1 e2 e3 => I1.base.keep b o e1 e2 e3 (fun z => nomatch (show b ∈ ([] : List Addr) from z))
  have keepF := kept f _ ob hn hfr
  refine PySem.W.callWith_F0 ⟨_, _, _, _, keepF⟩ ?_
  obtain ⟨⟨oc, vs, t, o1, o2, o3⟩, _, _⟩ := I1.hok c' _ hc
  have run : codeAny (model X.prog X.w) (X.A.deeper (envOfC q (defScope st) s.heap.objs.size g cdv)) (.call (.ref f) ⟨[], []⟩) (CR (L2.CX X.prog X.w) (envOfC q (defScope st) s.heap.objs.size g cdv :: X.stack) X.prog X.w H1 s1 QZ fun cls d H2 => W cls d σZ H2) s1 := by
    refine PySem.W.kla_callFunE room.depth keepF rfl L.co L.gen rfl ⟨c', oc, vs, t, rfl, o1, o2, o3⟩ ?_
    obtain ⟨binds, hb, bd⟩ := bnd s1 kept
    refine bd _ _ _ _ (wpAny_newFunctionEnv (fun y hy => (L.own y hy).1) (fun y hy => L.par _ (hb y hy)) (fun h1 ns new => ⟨I1.nolimit.fresh _ new, ?_⟩) L.kind)
    show codeAny _ _ (.expr body (LamX.lamEnv X scope s1.heap.objs.size f c')) _ _
    have stays : ∀ b o, s1.heap.get? b = some o → h1.get? b = some o := fun b o e => new.extBut b o (Nat.ne_of_lt (Heap.lt_size e)) (Heap.get?_push_of_some _ e)
    have J := lam_begin (E := fun cls d H2 => W cls d σZ H2) (f := f) (c' := c') (tk := s1.toks + binds.length) I L I1.env0 room.hd I1.base ns stays
    refine PySem.W.kla_codeExpr (wpAny_mono ((rd (X.A.deeper (envOfC q (defScope st) s.heap.objs.size g cdv)) _ s1 H1 _ rfl (room.deeper _)).r.run [] _ _ H1 QZ J ⟨φ, F, ρ, SZ, sg, sl, post⟩) (fun v s2 done => ?_) fun _ _ z => z)
    obtain ⟨w2, H2, J2, rv2, q2⟩ := done
    exact ⟨w2, H2, J2.os, J2.bare, J2.base, J2.hok, rv2, q2⟩
  refine wpAny_call (codeAny_mono run fun r s2 done => ?_)
  cases r with
  | error e => exact tk e s2 (XE.of_call I1 (fun _ _ _ z => z) done)
  | ok fl =>
    cases fl with
    | ret u => exact I1.after done
    | next => exact done.elim
    | brk => exact done.elim
    | cont => exact done.elim
def Made (H H1 : Hp) (P c : Addr) (q : Str) : Prop := (H1 = H ∧ H c = some (LamX.CodeO c q)) ∨ ∃ ps more : Array Value, H P = some (.tbl ps) ∧ H c = none ∧ H1 = upd (upd H P (.tbl (ps ++ more))) c (LamX.CodeO c q)
theorem Made.at {H H1 : Hp} {P c : Addr} {q : Str} (m : Made H H1 P c q) : H1 c = some (LamX.CodeO c q) := by
  rcases m with ⟨rfl, e⟩ | ⟨ps, more, _, _, rfl⟩
  · exact e
  · exact upd_same
theorem Made.else {H H1 : Hp} {P c a : Addr} {q : Str} (m : Made H H1 P c q) (h1 : a ≠ P) (h2 : a ≠ c) : H1 a = H a := by
  rcases m with ⟨rfl, e⟩ | ⟨ps, more, _, _, rfl⟩
  · rfl
  · rw [upd_ne h2, upd_ne h1]
theorem Made.tbl {H H1 : Hp} {P c : Addr} {q : Str} {ps : Array Value} (m : Made H H1 P c q) (h : H P = some (.tbl ps)) : ∃ ps', H1 P = some (.tbl ps') := by
  rcases m with ⟨rfl, e⟩ | ⟨ps', more, e1, e2, rfl⟩
  · exact ⟨_, h⟩
  · refine ⟨_, (upd_ne fun z => ?_).trans upd_same⟩
    rw [z, e2] at e1; cases e1
section
variable {τ : Tb} {K : PySem.W.Frag} {mg : Str → Option Value} {φ : Nat → Addr} {F : Addr → Prop} {H H1 : Hp} {S : Store} {P c : Addr} {q : Str}
theorem SG.made (g : SG τ K φ F H S) (m : Made H H1 P c q) (hP : ∃ q', (P, q') ∈ τ) (t : LamX.Tabs τ H1) : Now τ K S.length φ F H φ (fun a => F a ∨ a = c) H1 S := by
  obtain ⟨q', hq'⟩ := hP
  obtain ⟨psP, atP, _⟩ := g.tab _ hq'
  have notP : ∀ a, F a → a ≠ P := fun a ha z => g.ntab _ hq' (z ▸ ha)
  have ofC : H c = none ∨ F c := by
    rcases m with ⟨_, e⟩ | ⟨_, _, _, e, _⟩
    · exact .inr (g.codes _ _ _ e)
    · exact .inl e
  have codeEq : H c ≠ none → H1 = H := fun h => by
    rcases m with ⟨e, _⟩ | ⟨_, _, _, e, _⟩
    · exact e
    · exact absurd e h
  have same : ∀ a, F a → H1 a = H a := fun a ha => by
    by_cases z : a = c
    · subst z; rw [codeEq (g.dom a ha)]
    · exact m.else (notP a ha) z
  have stay : ∀ a, H a ≠ none → a ≠ P → H1 a = H a := fun a ha hP => by
    by_cases z : a = c
    · subst z; rw [codeEq ha]
    · exact m.else hP z
  have alive : ∀ a, H a ≠ none → H1 a ≠ none := fun a ha => by
    by_cases z : a = P
    · obtain ⟨ps, e⟩ := m.tbl atP
      rw [z, e]; simp
    · rw [stay a ha z]; exact ha
  have notTbl : ∀ i o, S[i]? = some o → o.live = true → φ i ≠ P ∧ φ i ≠ c := fun i o ho hv => by
    obtain ⟨u, hu, pu⟩ := (g.obj i o ho).plain hv
    refine ⟨fun z => ?_, fun z => ?_⟩
    · rw [z, atP] at hu
      exact pu.1 _ (Option.some.inj hu).symm
    · rcases ofC with e | e
      · rw [z, e] at hu; cases hu
      · exact (g.obj i o ho).there.2 hv (z ▸ e)
  refine ⟨⟨fun _ h => .inl h, same, fun _ _ => rfl⟩, ⟨fun a h => ?_, fun i o h => ?_, g.inj, t, fun p hp z => z.elim (g.ntab p hp) fun z => ?_, fun a ps h => ?_, fun a c2 q2 h => ?_⟩, Nat.le_refl _, fun a ha ht _ => stay a ha fun z => ht psP (z ▸ atP), alive, fun i h1 h2 => absurd h2 (Nat.not_lt.mpr h1), fun a (h : F a ∨ a = c) => ?_⟩
  · rcases h with h | h
    · rw [same a h]; exact g.dom a h
    · rw [h, m.at]; simp
  · have mo := g.obj i o h
    cases o with
    | lst ds => exact mo.ext (fun _ h => .inl h) same (fun hv h1 h2 => h2.elim h1 (notTbl i _ h hv).2) (m.else (notTbl i _ h rfl).1 (notTbl i _ h rfl).2)
    | dct es => exact mo.ext (fun _ h => .inl h) same (fun hv h1 h2 => h2.elim h1 (notTbl i _ h hv).2) (m.else (notTbl i _ h rfl).1 (notTbl i _ h rfl).2)
    | fz x => exact ⟨mo.1.ext (fun _ h => .inl h) same, alive _ mo.2⟩
  · obtain ⟨ps, h1, _⟩ := t p hp
    rw [z, m.at] at h1
    exact LamX.codeO_ne ps (Option.some.inj h1)
  · by_cases z : a = P
    · exact ⟨_, hq', z.symm⟩
    · by_cases z2 : a = c
      · rw [z2, m.at] at h
        exact absurd (Option.some.inj h) (LamX.codeO_ne ps)
      · rw [m.else z z2] at h
        exact g.only a ps h
  · by_cases z2 : a = c
    · exact .inr z2
    · by_cases z : a = P
      · obtain ⟨ps, e⟩ := m.tbl atP
        rw [z, e] at h
        exact absurd (Option.some.inj h).symm (by unfold LamX.CodeO; intro y; cases y)
      · rw [m.else z z2] at h
        exact .inl (g.codes a c2 q2 h)
  · rcases h with h | h
    · exact .inl h
    · subst h
      exact ofC.elim (fun e => .inr (.inl e)) .inl
end
theorem lam_tail {X : Cx} {pins : List (Addr × Obj)} {σ : L2.St} {H : Hp} {s : Shared} {τ : Tb} {c P : Addr} {params : Arguments} {body : Expr} {scope : Scope} {pos : Pos} {E Q : Value → Shared → Prop} {dV : Value} {line : Nat} (I : Inv X pins σ H s)
    (tb : LamX.TabB X.base X.mg c P) (code : X.env.code = .ref c) (inT : (P, X.env.qual ++ "<lambda>") ∈ τ) (one : ∀ p ∈ τ, p.1 = P → p.2 = X.env.qual ++ "<lambda>") (ts : LamX.Tabs τ H) (fr : ∀ y ∈ scope.names, y.2 = .free → ∃ c, X.env.cells.lookup y.1 = some c)
    (go : ∀ (f c' : Addr) (pm ctv doc : Value) (H1 : Hp) (s' : Shared), Inv X pins σ H1 s' → Made H H1 P c' (X.env.qual ++ "<lambda>") → LamX.Tabs τ H1 →
      s'.heap.get? f = some (PySem.W.kdv_obj "<lambda>" (X.env.qual ++ "<lambda>") params (.expr body) scope (cloFrom X.env.cells scope.names []) dV doc pm c' ctv) → H1 f = none → f ∉ L2.frs X.stack → s.heap.objs.size ≤ f → (∀ b o, s.heap.get? b = some o → H b = none → s'.heap.get? b = some o ∧ H1 b = none) → Q (.ref f) s') :
    wpAny (model X.prog X.w) X.A (makeTail "<lambda>" (X.env.qual ++ "<lambda>") params (.expr body) scope X.env dV .none none pos line) Q E s := by
  obtain ⟨ps, atP, tri, tells⟩ := ts _ inT
  have bm := tb.bm.keeps I.bk
  have obP : s.heap.get? P = some { cls := .none, data := .fields ps } := I.hok P _ atP
  have far : ∀ f, s.heap.objs.size ≤ f → f ∉ L2.frs X.stack := fun f hf z => (List.mem_cons.mp (I.stkSub _ z)).elim (fun e => absurd (e ▸ I.lt) (Nat.not_lt.mpr hf)) fun e => I.nofs hf e
  cases found : codeAmong pos ps.toList with
  | some cv =>
    obtain ⟨c', rfl, known⟩ := tells pos cv found
    refine PySem.W.kdv_makeTailHit (closure_ok fr) I.ok.glob (I.mod.glob.keeps I.bk) code (tb.code.keeps I.bk) obP tri found bm fun ctv doc h2 tk up sz => ?_
    exact go _ c' _ ctv doc H _ (I.kept fun b o e => Heap.get?_push_of_some _ (up b o e)) (.inl ⟨rfl, known⟩) ts (Heap.get?_push_size _ rfl) (I.hok.fresh sz) (far _ sz) sz fun b o e n => ⟨Heap.get?_push_of_some _ (up b o e), n⟩
  | none =>
    refine PySem.W.kdv_makeTail (closure_ok fr) I.ok.glob (I.mod.glob.keeps I.bk) code (tb.code.keeps I.bk) obP tri found tb.gP bm fun c' ctv doc h2 tk up ge lt rec there => ?_
    obtain ⟨_, oc, vs, t, ec, o1, o2, o3⟩ := rec
    cases ec
    have le2 : s.heap.objs.size ≤ h2.objs.size := Nat.le_trans ge (Nat.le_of_lt lt)
    have new : H c' = none := I.hok.fresh ge
    have m : Made H (upd (upd H P (.tbl (ps ++ #[rawInt pos.line, rawInt pos.col, .ref c']))) c' (LamX.CodeO c' (X.env.qual ++ "<lambda>"))) P c' (X.env.qual ++ "<lambda>") := .inr ⟨ps, _, atP, new, rfl⟩
    have J := LamX.inv_table (t' := tk) (q := X.env.qual ++ "<lambda>") (more := #[rawInt pos.line, rawInt pos.col, .ref c']) (h' := h2.push (PySem.W.kdv_obj "<lambda>" (X.env.qual ++ "<lambda>") params (.expr body) scope (cloFrom X.env.cells scope.names []) dV doc ((X.mg "__name__").getD .none) c' ctv)) I atP
      (fun b o nb e => Heap.get?_push_of_some _ (up b o nb e)) (Heap.get?_push_of_some _ there) ge ⟨oc, vs, t, Heap.get?_push_of_some _ o1, o2, o3⟩
    have list : (ps ++ #[rawInt pos.line, rawInt pos.col, .ref c']).toList = ps.toList ++ [rawInt pos.line, rawInt pos.col, .ref c'] := by simp
    have nPc : P ≠ c' := fun z => by rw [z, new] at atP; cases atP
    have keepC : ∀ c0 q, H c0 = some (LamX.CodeO c0 q) → upd (upd H P (.tbl (ps ++ #[rawInt pos.line, rawInt pos.col, .ref c']))) c' (LamX.CodeO c' (X.env.qual ++ "<lambda>")) c0 = some (LamX.CodeO c0 q) := fun c0 q e => by
      rw [m.else (fun z => by rw [z, atP] at e; exact LamX.codeO_ne ps (Option.some.inj e).symm) (fun z => by rw [z, new] at e; cases e)]
      exact e
    have ltP : ∀ b, s.heap.objs.size ≤ b → b ≠ P := fun b hb z => Nat.lt_irrefl _ (Nat.lt_of_lt_of_le (Heap.lt_size obP) (z ▸ hb))
    refine go h2.objs.size c' ((X.mg "__name__").getD .none) ctv doc _ _ J m (fun p hp => ?_) (Heap.get?_push_size _ rfl) ((m.else (ltP _ le2) (Nat.ne_of_gt lt)).trans (I.hok.fresh le2)) (far _ le2) le2 fun b o e n => ?_
    · by_cases z : p.1 = P
      · rw [one p hp z, z]
        refine ⟨_, (upd_ne nPc).trans upd_same, by rw [list]; exact PySem.TriplesOk_snoc _ _ _ _ tri, fun p2 cv h => ?_⟩
        rw [list] at h
        rcases LamX.among_app _ tri h with h | h
        · obtain ⟨c0, e1, e2⟩ := tells p2 cv h
          exact ⟨c0, e1, keepC _ _ e2⟩
        · exact ⟨c', h, upd_same⟩
      · obtain ⟨ps2, e1, e2, e3⟩ := ts p hp
        refine ⟨ps2, (m.else z fun y => ?_).trans e1, e2, fun p2 cv h => ?_⟩
        · rw [y, new] at e1; cases e1
        · obtain ⟨c0, a1, a2⟩ := e3 p2 cv h
          exact ⟨c0, a1, keepC _ _ a2⟩
    · have bP : b ≠ P := fun z => by rw [z, atP] at n; cases n
      have bc : b ≠ c' := fun z => Nat.lt_irrefl _ (Nat.lt_of_lt_of_le (Heap.lt_size e) (z ▸ ge))
      exact ⟨Heap.get?_push_of_some _ (up b o bP e), (m.else bP bc).trans n⟩
inductive LamParams (X : Cx) (params : Arguments) (body : Expr) (scope : Scope) : List Str → Prop where
  | none : defaultsOf params X.env = ([], []) → (∀ (s : Shared) (q : Str) (cl : List (Str × Addr)) (doc pm cv ctv : Value), BindsTo s (PySem.W.kdv_fn "<lambda>" q params (.expr body) scope cl .none doc pm cv ctv) ⟨[], []⟩ []) → LamParams X params body scope []
  | int {x : Str} {i : Int} {j : Nat} {p0 : Pos} : params.defaults = [.Constant (.int i) j p0] → params.kw_defaults = [] →
      (∀ (s : Shared) (q : Str) (cl : List (Str × Addr)) (T : Addr) (doc pm cv ctv v : Value), s.heap.get? T = some (PySem.W.kdv_tup [v]) → BindsTo s (PySem.W.kdv_fn "<lambda>" q params (.expr body) scope cl (.ref T) doc pm cv ctv) ⟨[], []⟩ [(x, v)]) → LamParams X params body scope [x]
theorem lam_new {X : Cx} {pins : List (Addr × Obj)} {σ : L2.St} {H : Hp} {s : Shared} {τ : Tb} {c P : Addr} {params : Arguments} {body : Expr} {scope : Scope} {pos : Pos} {E Q : Value → Shared → Prop} {ns : List Str} (I : Inv X pins σ H s)
    (tb : LamX.TabB X.base X.mg c P) (code : X.env.code = .ref c) (inT : (P, X.env.qual ++ "<lambda>") ∈ τ) (one : ∀ p ∈ τ, p.1 = P → p.2 = X.env.qual ++ "<lambda>") (ts : LamX.Tabs τ H) (pa : LamParams X params body scope ns) (fr : ∀ y ∈ scope.names, y.2 = .free → ∃ c, X.env.cells.lookup y.1 = some c)
    (go : ∀ (f c' : Addr) (pm ctv doc dV : Value) (H1 : Hp) (s' : Shared), Inv X pins σ H1 s' → Made H H1 P c' (X.env.qual ++ "<lambda>") → LamX.Tabs τ H1 →
      s'.heap.get? f = some (PySem.W.kdv_obj "<lambda>" (X.env.qual ++ "<lambda>") params (.expr body) scope (cloFrom X.env.cells scope.names []) dV doc pm c' ctv) → H1 f = none → f ∉ L2.frs X.stack →
      (∀ (s2 : Shared), (∀ b o, s'.heap.get? b = some o → H1 b = none → b ∉ L2.frs X.stack → s2.heap.get? b = some o) → ∃ binds : List (Str × Value), (∀ y ∈ binds, y.1 ∈ ns) ∧ BindsTo s2 (PySem.W.kdv_fn "<lambda>" (X.env.qual ++ "<lambda>") params (.expr body) scope (cloFrom X.env.cells scope.names []) dV doc pm (.ref c') ctv) ⟨[], []⟩ binds) → Q (.ref f) s') :
    wpAny (model X.prog X.w) X.A (eval (.Lambda params body scope pos) X.env) Q E s := by
  have far : ∀ f, s.heap.objs.size ≤ f → f ∉ L2.frs X.stack := fun f hf z => (List.mem_cons.mp (I.stkSub _ z)).elim (fun e => absurd (e ▸ I.lt) (Nat.not_lt.mpr hf)) fun e => I.nofs hf e
  cases pa with
  | none d b =>
    refine PySem.W.kla_eval d ?_
    rw [makeFunction_eq]
    simp only [List.zip_nil_right, List.filterMap_nil, List.isEmpty_nil, if_true, pure_bind]
    exact lam_tail I tb code inT one ts fr fun f c' pm ctv doc H1 s' J m t ob hn hf _ _ => go f c' pm ctv doc .none H1 s' J m t ob hn hf fun s2 _ => ⟨[], fun _ z => (nomatch z), b _ _ _ _ _ _ _⟩
  | @int x i j p0 d d2 b =>
    refine PySem.W.kdv_lam (by rw [d]; rfl) d2 ?_
    rw [d]
    refine PySem.W.kdv_all1 (thn ((pe_int (i := i) (j := j) (pos := p0)).run pins s σ H (fun v H1 => v = .int i ∧ H1 = H) I ⟨rfl, rfl⟩) fun u s1 ⟨v, H1, I1, r1, ev, eH⟩ => ?_)
    subst ev eH
    refine PySem.W.kdv_all0 ?_
    rw [makeFunction_eq]
    simp only [List.zip_nil_right, List.filterMap_nil, List.isEmpty_nil, List.isEmpty_cons, Bool.false_eq_true, if_false, if_true, pure_bind]
    refine wpAny_bind (wpAny_newTextTuple ?_)
    have J1 := I1.kept (t' := s1.toks) (h' := s1.heap.push { cls := .type "tuple", data := .seq [u].toArray }) fun b o e => Heap.get?_push_of_some _ e
    have farT : s1.heap.objs.size ∉ L2.frs X.stack := fun z => (List.mem_cons.mp (I1.stkSub _ z)).elim (fun e => absurd (e ▸ I1.lt) (Nat.lt_irrefl _)) fun e => I1.nofs (Nat.le_refl _) e
    refine lam_tail J1 tb code inT one ts fr fun f c' pm ctv doc H2 s' J m t ob hn hf _ keep => go f c' pm ctv doc _ H2 s' J m t ob hn hf fun s2 up => ⟨[(x, u)], fun y hy => by rw [List.mem_singleton.mp hy]; simp, ?_⟩
    obtain ⟨k1, k2⟩ := keep s1.heap.objs.size _ (Heap.get?_push_size _ rfl) (I1.hok.fresh (Nat.le_refl _))
    exact b s2 _ _ _ _ _ _ _ u (up _ _ k1 k2 farT)
structure LamOk (τ : Tb) (P : Program) (w : World) (K : PySem.W.Frag) (mg : Str → Option Value) (base : Heap) (k : Nat) (x : Str) (gw : Ev → Fn) : Prop where
  ex : ∃ (f : Addr) (y a : Str) (st : Stmt) (fd : FuncData) (N : List Str) (b : Ev → Sv), Fun K y y st f fd ∧ mg x = some (.ref f) ∧ PySem.W.keepIn K (.ref f) = true ∧ Binds K fd [a] [] ∧ FnScope N [a] (defScope st) ∧ N[0]? = some a ∧ Vis (defScope st) a ∧
    (a == ("__debug__" : Str)) = false ∧ (a == ("__classdict__" : Str)) = false ∧ (∀ act, gw act = fnOf N.length (b act)) ∧
    ∀ (cdv : Value) (B : Around) (fs : List PySem.Env) (s : Shared) (H : Hp) (E : XK) (act : Ev), Cc (cxD P w K mg base N y st f cdv B fs s H E) (wD E) k →
      (∀ (W : WX) (pn : List (Addr × Obj)) (xe : Value → Shared → Prop) (p1 p2 : Pos), Takes ((cxD P w K mg base N y st f cdv B fs s H E).tr pn xe) W → DE τ ((cxD P w K mg base N y st f cdv B fs s H E).tr pn xe) W (.Call (.Name a p1) [] [] p2) act) →
      DB τ (cxD P w K mg base N y st f cdv B fs s H E) (wD E) (defBody st) (b act)
theorem de_lam {X : Cx} {W : WX} {j k k' : Nat} {x : Str} {gw : Ev → Fn} {params : Arguments} {body : Expr} {scope : Scope} {lpos p pos : Pos} {fb : Ev} (G : LamOk τ X.prog X.w X.K X.mg X.base k x gw) (cc : Cc X W (j + 2)) (lh : Lh τ X) (hk : k ≤ j + 1) (hk' : k' ≤ j) (hg : Gl X x) {ns : List Str} (L : LamN X.N X.env.scope scope ns) (pa : LamParams X params body scope ns)
    (rd : ∀ (A : Around) (outer : List PySem.Env) (s : Shared) (H : Hp) (E : XK) (f c' : Addr), Cc (LamX.lamCx X A outer s H E scope f c') (wD E) k' → DE τ (LamX.lamCx X A outer s H E scope f c') (wD E) body fb)
    (hdb : (x == ("__debug__" : Str)) = false := by decide) : DE τ X W (.Call (.Name x p) [.Lambda params body scope lpos] [] pos) (eLam gw fb) := by
  obtain ⟨c, P, code, tb, inT, one⟩ := lh.ex
  obtain ⟨g, y, a, st, fd, N, b, Fu, there, keep, bi, Sc, h0, vis, d1, d2, gwb, read⟩ := G.ex
  refine ⟨⟨fun pins s σ H Q I ⟨φ, F, ρ, S, sg, sl, post⟩ => ?_⟩⟩
  refine wpAny_Call_Name_kw (ld_glob I hg there ?_ hdb)
  refine PySem.W.callWith_K (h₀ := X.base) I.ok.mod.kin keep ?_ (by rfl) (by rfl)
  show wpAny _ _ (spliced ((false, eval (.Lambda params body scope lpos) X.env) :: backTo pos (starEach [] X.env))) _ _ s
  refine Calls.spliced_cons (lam_new I tb code inT one sg.tab pa (L.has I.ok) fun f c' pm ctv doc dV H1 s1 I1 m t1 ob hn hfr bnd => ?_)
  refine Calls.spliced_nil ⟨I1.kIn, ?_⟩
  have nw := sg.made m ⟨_, inT⟩ t1
  -- what stands for the lambda
  let p0 : LamP := ⟨fun φ F H n v => v = .ref f ∧ F c' ∧ H c' = some (LamX.CodeO c' (X.env.qual ++ "<lambda>")) ∧ Slots X.K X.mg φ F H n σ ρ, fun v e h ⟨h1, h2, h3, h4⟩ => ⟨h1, e.sub _ h2, (e.same _ h2).trans h3, h4.ext e h⟩⟩
  have nb : pickL (fun p => gw (eAct p (fb ρ)) [.lam p] S) ≠ .bad := fun z => by
    have post : PostG τ X.K X.mg (RepV X.K X.mg) (fun c od H' => W c od σ H') S.length φ F H Q (pickL fun p => gw (eAct p (fb ρ)) [.lam p] S) := post
    rw [z] at post
    exact post
  have post1 : Post τ X.K X.mg (fun c od H' => W c od σ H') S.length φ (fun a => F a ∨ a = c') H1 Q (gw (eAct p0 (fb ρ)) [.lam p0] S) := by
    rw [pickL_at nb p0]
    exact PostG.start sg nw post
  have repV : RepVs X.K X.mg φ (fun a => F a ∨ a = c') H1 S.length [.ref f] [.lam p0] := ⟨⟨rfl, .inr rfl, m.at, sl.now nw⟩, trivial⟩
  have bd := bi s1 [.ref f] I1.kIn rfl
  rw [List.append_nil] at bd
  have run : codeAny (model X.prog X.w) X.A (.call (.ref g) ⟨[.ref f], []⟩) (CR (L2.CX X.prog X.w) X.stack X.prog X.w H1 s1 Q fun c d H2 => W c d σ H2) s1 := by
    refine lam_run (N := N) (ps := [a]) (us := [.ref f]) (vs := [.ref f]) (k := j + 1) Fu Sc cc.rm I1.env0 bd (.cons rfl .nil) rfl fun cdv room => ?_
    refine ⟨_, (read cdv X.A X.stack s1 H1 _ (eAct p0 (fb ρ)) (cc_def Sc.nd (room.mono hk) cc.gd) fun W' pn xe p1 p2 tk => ?_).r, φ, _, _, S, nw.sg, slots_start repV _, ?_⟩
    · exact de_act I1 L ob hn hfr bnd tk room (fun A outer s H E gA rm => rd A outer s H E f c' (cc_lam cc.nd (rm.mono hk') (gA.trans cc.gd))) (fun φ F H n v ⟨h1, _, h3, h4⟩ => ⟨h1, h3, h4⟩) h0 vis d1 d2
    · rw [gwb] at post1
      have p1 : Post τ X.K X.mg (fun c d H2 => W c d σ H2) S.length φ (fun a => F a ∨ a = c') H1 Q (fnOf N.length (b (eAct p0 (fb ρ))) [.lam p0] S) := post1
      unfold fnOf at p1
      cases e : b (eAct p0 (fb ρ)) ([Vl.lam p0].map some ++ List.replicate (N.length - [Vl.lam p0].length) none) S with
      | nx ρ1 S1 => rw [e] at p1; exact fun φ1 F1 H1 nw1 σ1 sl1 => p1 _ _ _ nw1.cut .non .non
      | ret v S1 => rw [e] at p1; exact fun φ1 F1 H1 nw1 x rx => leave_ok nw.sg nw1 rx p1
      | ex x ρ1 S1 => rw [e] at p1; exact fun φ1 F1 H1 nw1 c od rx σ1 sl1 => p1 _ _ _ nw1.cut c od rx
      | bk ρ1 S1 => rw [e] at p1; exact (show False from p1).elim
      | ct ρ1 S1 => rw [e] at p1; exact (show False from p1).elim
      | bad => rw [e] at p1; exact p1
  refine wpAny_call (codeAny_mono run fun r s2 done => ?_)
  cases r with
  | error e => exact cc.tk e s2 (XE.of_call I1 (fun _ _ _ z => z) done)
  | ok fl =>
    cases fl with
    | ret u => exact I1.after done
    | next => exact done.elim
    | brk => exact done.elim
    | cont => exact done.elim
section
variable {P : Program} {w : World} {K : PySem.W.Frag} {mg mb : Str → Option Value} {cs : List (Addr × Addr)}
theorem head_at {h : Heap} {H : Hp} {c Pa : Addr} (C : PySem.W.CodeHd h c Pa) (free : ∀ o, h.get? c = some o → (∃ vs, o.data = .fields vs ∧ vs ≠ #[]) → H c = none) : PySem.W.CodeHd (hidT h H) c Pa := by
  obtain ⟨o, us, z1, z2, z3, z4, z5, z6, z7, e1, e2, e3, e4, e5⟩ := C
  refine ⟨o, us, z1, z2, z3, z4, z5, z6, z7, hidT_get e1 (free o e1 ⟨us, e3, fun z => ?_⟩), e2, e3, e4, e5⟩
  rw [z] at e4
  simp at e4
theorem law_atT {k : Nat} {fa a : Addr} {fd : FuncData} {x : Str} {sp : Sp} {s : Shared} {vs : List Value} {H : Hp} (inK : K.In s.heap) (ns : s.heap.Ns mainGlobals mg) (nb : s.heap.Ns builtinsNs mb) (bb : ∀ x : Str, x ≠ "__name__" → mb x = bootBuiltins x)
    (lim : s.heap.NoLimit) (gn : s.gens = #[]) (at_ : s.heap.get? a = some { cls := .type "list", data := .seq vs.toArray }) (room : Room k callerA)
    (bm : ∃ (bm : Addr) (ob : Obj), mg "__builtins__" = some (.ref bm) ∧ bm ≠ builtinsNs ∧ s.heap.get? bm = some ob ∧ ob.cls = .type "module" ∧ ob.dict = some builtinsNs ∧ ob.data = .plain)
    (tabs : ∀ p ∈ cs, PySem.W.CodeHd s.heap p.1 p.2 ∧ s.heap.get? p.2 = some (PySem.W.tabObj #[])) (noK : ∀ p ∈ cs, K.lookup p.2 = none)
    (F : ∀ base : Heap, K.In base → base.Ns mainGlobals mg → (∀ p ∈ cs, LamX.TabB base mg p.1 p.2) → Fk P w K mg base k fa fd [x] sp) (bind : ∀ (s : Shared) (u : Value), BindsTo s fd ⟨[u], []⟩ [(x, u)])
    (hok : HOk P w H s.heap) (only : ∀ b, H b ≠ none → b = a ∨ ∃ p ∈ cs, p.2 = b) (inH : ∀ p ∈ cs, H p.2 = some (.tbl #[])) (fz : H a ≠ none → K.lookup a = none ∧ ∃ u, H a = some (.frz { cls := .type "list", data := .seq vs.toArray } u)) (prom : sp [.ref a] H (fun v _ => v = .bl true) fun _ _ _ => False) :
    codeAny (model P w) callerA (.call (.ref fa) ⟨[.ref a], []⟩) (fun r s' => r = .ok (.ret (.bool true)) ∧ OldK s.heap s'.heap ∧ s'.os = s.os ∧ AllBare s'.gens) s := by
  have untracked : ∀ {b : Addr} {o : Obj}, s.heap.get? b = some o → (∀ vs n, o.data ≠ .seq vs n) → o.data ≠ .fields #[] → H b = none := fun {b o} e n1 n2 => by
    cases q : H b with
    | none => rfl
    | some u =>
      rcases only b (by rw [q]; simp) with z | ⟨p, hp, z⟩
      · subst z
        rw [at_] at e
        cases e
        exact absurd rfl (n1 _ _)
      · subst z
        rw [(tabs p hp).2] at e
        cases e
        exact absurd rfl n2
  have dicts : ∀ {b : Addr} {o : Obj} {es : Array DictEntry} {ep : Nat}, s.heap.get? b = some o → o.data = .dict es ep → H b = none := fun {b o es ep} e d => untracked e (fun vs n z => by rw [d] at z; cases z) (fun z => by rw [d] at z; cases z)
  have kFree : ∀ b o, K.lookup b = some o → H b = none := fun b o e => by
    cases q : H b with
    | none => rfl
    | some u =>
      rcases only b (by rw [q]; simp) with z | ⟨p, hp, z⟩
      · subst z
        rw [(fz (by rw [q]; simp)).1] at e; cases e
      · subst z
        rw [noK p hp] at e; cases e
  have nsUp : ∀ {b : Addr} {m : Str → Option Value}, s.heap.Ns b m → (hidT s.heap H).Ns b m := fun {b m} ⟨o, es, ep, e, d, r⟩ => ⟨o, es, ep, hidT_get e (dicts e d), d, r⟩
  have kBase : K.In (hidT s.heap H) := fun b o e => hidT_get (inK b o e) (kFree b o e)
  have md : Mod K mg (hidT s.heap H) := ⟨kBase, nsUp ns, ⟨mb, nsUp nb, bb⟩, lim.imp fun _ z => ⟨nsUp z.1, z.2⟩⟩
  have env : Env0 P w K mg (hidT s.heap H) callerA [] s H := ⟨rfl, md, fun b o e => of_hidT e, Nat.le_of_eq (hidT_size _ _), trivial, fun b hb => absurd (show b ∈ ([] : List Addr) from hb) (by simp), hok, .of_eq gn⟩
  have dictOf : ∀ {b : Addr} {m : Str → Option Value} {o : Obj}, s.heap.Ns b m → s.heap.get? b = some o → ∃ es ep, o.data = .dict es ep := fun {b m o} ⟨o2, es, ep, e, d, _⟩ e2 => by
    rw [e] at e2
    cases e2
    exact ⟨es, ep, d⟩
  have tb : ∀ p ∈ cs, LamX.TabB (hidT s.heap H) mg p.1 p.2 := fun p hp => by
    obtain ⟨C, obP⟩ := tabs p hp
    refine ⟨head_at C fun o e ⟨us, d, ne⟩ => untracked e (fun vs n z => by rw [d] at z; cases z) (fun z => by rw [d] at z; exact ne (Data.fields.inj z)), ?_, fun z => ?_⟩
    · obtain ⟨m, o, m1, m2, m3, m4, m5, m6⟩ := bm
      refine ⟨m, o, m1, m2, fun z => ?_, fun z => ?_, hidT_get m3 (untracked m3 (fun vs n z => by rw [m6] at z; cases z) (fun z => by rw [m6] at z; cases z)), m4, m5, m6⟩
      · subst z
        obtain ⟨es, ep, d⟩ := dictOf ns m3
        rw [m6] at d; cases d
      · subst z
        rw [obP] at m3
        cases m3
        cases m6
    · rw [← z] at obP
      obtain ⟨es, ep, d⟩ := dictOf ns obP
      cases d
  refine codeAny_mono ((F _ kBase (nsUp ns) tb).go callerA [] s H ⟨[.ref a], []⟩ [.ref a] [.ref a] _ _ room rfl env (bind s (.ref a)) (.cons rfl .nil) prom) fun r s2 done => ?_
  cases r with
  | error e =>
    obtain ⟨_, _, _, _, _, _, _, _, _, _, _, _, z⟩ := (show L2.CX P w [] H s (fun _ _ _ => False) e s2 from done)
    exact z.elim
  | ok fl =>
    cases fl with
    | next => exact (show False from done).elim
    | brk => exact (show False from done).elim
    | cont => exact (show False from done).elim
    | ret u =>
      obtain ⟨v, H2, os2, bare2, un, hok2, rv, qv⟩ := (show CE [] P w H s _ u s2 from done)
      have ev : v = .bl true := qv
      subst ev
      obtain rfl : u = Value.bool true := rv
      have tabs2 : ∀ p ∈ cs, ∃ more : Array Value, s2.heap.get? p.2 = some (PySem.W.tabObj more) := fun p hp => by
        obtain ⟨more, z⟩ := un.tbls p.2 #[] (inH p hp)
        exact ⟨_, hok2 p.2 _ z⟩
      have others : ∀ b o, (∀ p ∈ cs, p.2 ≠ b) → s.heap.get? b = some o → s2.heap.get? b = some o := fun b o nt e => by
        cases q : H b with
        | none => exact un.keep b o e q (by intro z; exact absurd (show b ∈ ([] : List Addr) from z) (by simp)) (by simp)
        | some u =>
          rcases only b (by rw [q]; simp) with z | ⟨p, hp, z⟩
          · subst z
            obtain ⟨_, u2, e3⟩ := fz (by rw [q]; simp)
            have e4 := (hok2 b _ (un.frzs b _ u2 e3)).1
            rw [at_] at e
            cases e
            exact e4
          · exact absurd z (nt p hp)
      refine ⟨rfl, ⟨fun b o e => ?_, fun b o e => ?_⟩, os2, bare2⟩
      · by_cases z : ∃ p ∈ cs, p.2 = b
        · obtain ⟨p, hp, rfl⟩ := z
          obtain ⟨C, obP⟩ := tabs p hp
          obtain ⟨more, e2⟩ := tabs2 p hp
          rw [obP] at e
          cases e
          refine .inr (.inl ⟨(C.tab obP).isCodeTable, rfl, #[], more, rfl, ?_⟩)
          rw [Array.empty_append]
          exact e2
        · exact .inl (others b o (fun p hp y => z ⟨p, hp, y⟩) e)
      · by_cases z : ∃ p ∈ cs, p.2 = b
        · obtain ⟨p, hp, rfl⟩ := z
          obtain ⟨more, e2⟩ := tabs2 p hp
          exact ⟨_, e2⟩
        · exact ⟨o, others b o (fun p hp y => z ⟨p, hp, y⟩) e⟩
end
abbrev tauOf (cq : List ((Addr × Addr) × Str)) : Tb := cq.map fun p => (p.1.2, p.2)
noncomputable def startH (cq : List ((Addr × Addr) × Str)) (a : Addr) (sc : Option HO) : Hp := fun b => open Classical in if b = a ∧ sc ≠ none then sc else if ∃ p ∈ cq, p.1.2 = b then some (.tbl #[]) else none
theorem startH_a {cq : List ((Addr × Addr) × Str)} {a : Addr} {u : HO} : startH cq a (some u) a = some u := if_pos ⟨rfl, by simp⟩
theorem startH_t {cq : List ((Addr × Addr) × Str)} {a b : Addr} {sc : Option HO} (h : b ≠ a ∨ sc = none) (hb : ∃ p ∈ cq, p.1.2 = b) : startH cq a sc b = some (.tbl #[]) := by
  unfold startH
  rw [if_neg (fun z => h.elim (fun y => y z.1) (fun y => z.2 y)), if_pos hb]
theorem startH_n {cq : List ((Addr × Addr) × Str)} {a b : Addr} {sc : Option HO} (h : b ≠ a ∨ sc = none) (hb : ¬ ∃ p ∈ cq, p.1.2 = b) : startH cq a sc b = none := by
  unfold startH
  rw [if_neg (fun z => h.elim (fun y => y z.1) (fun y => z.2 y)), if_neg hb]
theorem walk_fkT {l : PySem.W.OpenLaw} {n k : Nat} {q : Program} {loose : List Str} {XP : (Str → Option Value) → Heap → Prop} {YP : World → Heap → Prop} {d : DefRec} {K : Params → PySem.W.Frag} {x : Str} {g : Fn}
    (hn : l.most = some n) (hn2 : n ≤ sizeLine) (noDef : d.params.defaults = []) (room : Room k callerA) (hY : ∀ (w : World) (h : Heap), YP w h → (K w.params).In h)
    (F : ∀ (w : World) (mg : Str → Option Value) (fa : Addr) (h : Heap), (K w.params).In h → h.Ns mainGlobals mg → mg d.name = some (.ref fa) →
        (∀ (y : Str) (e : DefRec) (c P : Addr), (recsOf q).find? (fun e => e.name == y) = some e → PySem.W.tabIn (K w.params) y = some (c, P) → PySem.W.CodeHd h c P ∧ h.get? P = some (PySem.W.tabObj #[])) →
        ∃ (fd : FuncData) (cq : List ((Addr × Addr) × Str)), (∀ p ∈ cq, PySem.W.CodeHd h p.1.1 p.1.2 ∧ h.get? p.1.2 = some (PySem.W.tabObj #[])) ∧ (∀ p ∈ cq, (K w.params).lookup p.1.2 = none) ∧ (∀ (s : Shared) (u : Value), BindsTo s fd ⟨[u], []⟩ [(x, u)]) ∧
          ∀ base : Heap, (K w.params).In base → base.Ns mainGlobals mg → (∀ p ∈ cq, LamX.TabB base mg p.1.1 p.1.2) → Fk l.prog w (K w.params) mg base k fa fd [x] (spN (tauOf cq) (K w.params) mg 1 g))
    (law : ∀ ns : List Int, ns.length ≤ n → ∃ S, g [.scr ns] [] = .ok (.d (.bool true)) S) : PySem.W.WalkO q loose XP YP l.row.toRowW d [] (fun f vs => PySem.call f vs) := by
  refine Att.attach_call hn noDef fun w s₀ s₁ mg mb fa o pm cd doc a vs ns G Y ho hd hcd hmg hobj hints hlen hg => ?_
  have inK := hY w _ Y
  obtain ⟨fd, cq, tabs, noK, bind, hF⟩ := F w mg fa _ inK G.T.g hmg (fun y e c P h1 h2 => PySem.W.tab_of G.T inK h1 h2)
  obtain ⟨S, e⟩ := law ns hlen
  have rv := vals_ints hints
  have aT : ∀ p ∈ cq, p.1.2 ≠ a := fun p hp z => by
    have := (tabs p hp).2
    rw [z, hobj] at this
    cases this
  have at_ := fun {H : Hp} => law_atT (cs := cq.map (·.1)) (H := H) inK G.T.g G.T.b G.T.builtins G.T.nolimit hg hobj room G.T.bmain
    (fun p hp => by obtain ⟨q, hq, rfl⟩ := List.mem_map.mp hp; exact tabs q hq) (fun p hp => by obtain ⟨q, hq, rfl⟩ := List.mem_map.mp hp; exact noK q hq) (fun base h1 h2 h3 => hF base h1 h2 fun p hp => h3 _ (List.mem_map.mpr ⟨p, hp, rfl⟩)) bind
  have fin : ∀ {H : Hp} {F : Addr → Prop}, SG (tauOf cq) (K w.params) (fun _ => 0) F H [] → RepV (K w.params) mg (fun _ => 0) F H 0 (.ref a) (.scr ns) → spN (tauOf cq) (K w.params) mg 1 g [.ref a] H (fun v _ => v = .bl true) fun _ _ _ => False := fun {H F} sg r =>
    ⟨rfl, fun _ => 0, F, [.scr ns], [], sg, ⟨r, trivial⟩, by
      rw [e]
      intro φ' F' H' _ v r
      cases r
      rfl⟩
  have none_or : ∀ (sc : Option HO) b u, startH cq a sc b = some u → (b = a ∧ sc = some u) ∨ ((∃ p ∈ cq, p.1.2 = b) ∧ u = .tbl #[]) := fun sc b u z => by
    by_cases h1 : b = a ∧ sc ≠ none
    · unfold startH at z
      rw [if_pos h1] at z
      exact .inl ⟨h1.1, z⟩
    · have h1 : b ≠ a ∨ sc = none := by
        by_cases y : b = a
        · exact .inr (Classical.byContradiction fun w => h1 ⟨y, w⟩)
        · exact .inl y
      by_cases h2 : ∃ p ∈ cq, p.1.2 = b
      · rw [startH_t h1 h2] at z
        exact .inr ⟨h2, (Option.some.inj z).symm⟩
      · rw [startH_n h1 h2] at z; cases z
  have onlyOf : ∀ (sc : Option HO) b, startH cq a sc b ≠ none → b = a ∨ ∃ p ∈ cq.map (·.1), p.2 = b := fun sc b z => by
    cases y : startH cq a sc b with
    | none => exact absurd y z
    | some u =>
      rcases none_or sc b u y with h | ⟨⟨p, hp, h⟩, _⟩
      · exact .inl h.1
      · exact .inr ⟨_, List.mem_map.mpr ⟨p, hp, rfl⟩, h⟩
  have inOf : ∀ (sc : Option HO), ∀ p ∈ cq.map (·.1), startH cq a sc p.2 = some (.tbl #[]) := fun sc p hp => by
    obtain ⟨p0, hp0, rfl⟩ := List.mem_map.mp hp
    exact startH_t (.inl (aT p0 hp0)) ⟨p0, hp0, rfl⟩
  have tabOk : ∀ b, (∃ p ∈ cq, p.1.2 = b) → s₁.heap.get? b = some (PySem.W.tabObj #[]) := fun b ⟨p, hp, z⟩ => z ▸ (tabs p hp).2
  -- the start: what is tracked
  have sgOf : ∀ (sc : Option HO) (F : Addr → Prop), (∀ b, F b → b = a ∧ sc ≠ none) → (∀ u, sc = some u → Plain0 u) → SG (tauOf cq) (K w.params) (fun _ => 0) F (startH cq a sc) [] := fun sc F hF hp => by
    refine ⟨fun b hb => ?_, fun i o z => by simp at z, fun i j z => by simp at z, fun p hp => ?_, fun p hp z => ?_, fun b ps z => ?_, fun b c q z => ?_⟩
    · obtain ⟨rfl, h2⟩ := hF b hb
      cases sc with
      | none => exact absurd rfl h2
      | some u => rw [startH_a]; simp
    · obtain ⟨p0, hp0, rfl⟩ := List.mem_map.mp hp
      exact LamX.TabS.nil (startH_t (.inl (aT p0 hp0)) ⟨p0, hp0, rfl⟩)
    · obtain ⟨p0, hp0, rfl⟩ := List.mem_map.mp hp
      exact aT p0 hp0 (hF _ z).1
    · rcases none_or sc b _ z with ⟨_, h⟩ | ⟨⟨p, hp, h⟩, _⟩
      · exact absurd rfl ((hp _ h).1 ps)
      · exact ⟨_, List.mem_map.mpr ⟨p, hp, rfl⟩, h⟩
    · rcases none_or sc b _ z with ⟨_, h⟩ | ⟨_, h⟩
      · exact absurd rfl ((hp _ h).2 c q)
      · exact absurd h (LamX.codeO_ne _)
  cases hk : (K w.params).lookup a with
  | some ob =>
    have e1 := inK a ob hk
    rw [hobj] at e1
    cases e1
    refine at_ (H := startH cq a none) (fun b u z => ?_) (onlyOf none) (inOf none) (fun z => ?_) (fin (F := fun _ => False) (sgOf none _ (fun _ z => z.elim) (fun _ z => by cases z)) ⟨a, rfl, .inr ⟨_, vs.toArray, _, hk, rfl, rfl, rfl, ?_, by simpa using rv⟩⟩)
    · rcases none_or none b u z with ⟨_, h⟩ | ⟨h, rfl⟩
      · cases h
      · exact tabOk b h
    · have none : startH cq a none a = none := startH_n (.inr rfl) (fun ⟨p, hp, y⟩ => aT p hp y)
      exact absurd none z
    · rw [List.size_toArray, hints.length]
      exact Nat.le_trans hlen hn2
  | none =>
    refine at_ (H := startH cq a (some (.frz { cls := .type "list", data := .seq vs.toArray } (.lst (ns.map V.int))))) (fun b u z => ?_) (onlyOf _) (inOf _) (fun z => ⟨hk, _, startH_a⟩)
      (fin (F := fun b => b = a) (sgOf _ _ (fun _ z => ⟨z, by simp⟩) (fun u z => by cases z; exact ⟨fun _ y => (by cases y), fun _ _ y => (by unfold LamX.CodeO at y; cases y)⟩)) ⟨a, rfl, .inl ⟨rfl, _, startH_a⟩⟩)
    rcases none_or _ b u z with ⟨rfl, h⟩ | ⟨h, rfl⟩
    · cases h
      exact ⟨hobj, by rw [List.length_map]; exact Nat.le_trans hlen hn2, vs, _, rv, hobj⟩
    · exact tabOk b h
def eCallV (i : Nat) (t : Str → Option (Nat × Fn)) (fs : Av) : Ev := fun ρ S => match ρ[i]? with
  | some (some (Vl.glo x)) => match t x with
    | some (n, g) => eCallN n g fs ρ S
    | none => .bad
  | _ => .bad
@[simp] theorem ap_eCallV {i : Nat} {t : Str → Option (Nat × Fn)} {fs : Av} {ρ : Env} {S : Store} : eCallV i t fs ρ S = match ρ[i]? with
  | some (some (Vl.glo x)) => match t x with
    | some (n, g) => eCallN n g fs ρ S
    | none => .bad
  | _ => .bad := rfl
theorem rel_ref {v : V} {f : Addr} (h : RelV v (.ref f)) : v = .ref f := by
  cases v with
  | ref a => cases (show Value.ref f = Value.ref a from h); rfl
  | non => cases (show Value.ref f = Value.none from h)
  | bl b => cases (show Value.ref f = Value.bool b from h)
  | ty n => cases (show Value.ref f = Value.type n from h)
  | int i => obtain ⟨_, z⟩ := h; cases z
  | str i => obtain ⟨_, z⟩ := h; cases z
  | byt i => obtain ⟨_, z⟩ := h; cases z
  | flt i => obtain ⟨_, z⟩ := h; cases z
theorem de_callV {X : Cx} {W : WX} {j i : Nat} {a : Str} {t : Str → Option (Nat × Fn)} {fs : Av} {e : Expr} {es : List Expr} {p pos : Pos} (cc : Cc X W j) (ht : ∀ x n g, t x = some (n, g) → ∃ k, k ≤ j ∧ DefOk τ X.prog X.w X.K X.mg X.base k n x g) (hN : X.N[i]? = some a) (ha : DA τ X W (e :: es) fs)
    (hv : Vis X.env.scope a := by first | exact Or.inl rfl | exact Or.inr (Or.inl rfl) | exact Or.inr (Or.inr rfl)) (hd : (a == ("__debug__" : Str)) = false := by decide) (hcd : (a == ("__classdict__" : Str)) = false := by decide)
    (h1 : starEach (e :: es) X.env = (false, eval e X.env) :: starEach es X.env := by rfl) (h2 : (backTo pos (starEach es X.env)).any (·.1) = false := by rfl) : DE τ X W (.Call (.Name a p) (e :: es) [] pos) (eCallV i t fs) := by
  refine ⟨⟨fun pins s σ H Q I ⟨φ, F, ρ, S, sg, sl, post⟩ => ?_⟩⟩
  unfold eCallV at post
  split at post
  case h_2 => exact post.elim
  rename_i x at0
  split at post
  case h_2 => exact post.elim
  rename_i n g tx
  obtain ⟨k, kj, ok⟩ := ht x n g tx
  obtain ⟨f, fd, ps, G, there, keep, bi⟩ := ok.ex
  obtain ⟨v, hσ, u0, mu, rv⟩ := sl.2 i _ at0
  rw [there] at mu
  cases mu
  obtain rfl := rel_ref rv
  refine wpAny_Call_Name_kw (thn ((pe_var (pos := p) (i := i) hN hv hd hcd).run pins s σ H (fun v H1 => v = .ref f ∧ H1 = H) I ⟨_, hσ, rfl, rfl⟩) fun u s1 ⟨v, H1, I1, r1, ev, eH⟩ => ?_)
  subst ev eH
  obtain rfl : u = Value.ref f := r1
  have post : PostG τ X.K X.mg (RepV X.K X.mg) (fun c od H' => W c od σ H') S.length φ F H1 Q ((fs ρ S).bind fun vs S1 => if vs.length = n then g vs S1 else .bad) := post
  have args : RA τ X.K X.mg W fs σ H1 fun vs H2 => spN τ X.K X.mg n g vs H2 Q fun c d H3 => W c d σ H3 := ⟨φ, F, ρ, S, sg, sl, PostG.bind sg post fun φ1 F1 H2 S1 vs xs nw1 r1 p1 => by
    by_cases hl : vs.length = n
    · rw [if_pos hl] at p1
      exact ⟨r1.len.trans hl, φ1, F1, vs, S1, nw1.sg, r1, p1⟩
    · rw [if_neg hl] at p1; exact p1.elim⟩
  exact PySem.W.callWith_K (h₀ := X.base) I1.ok.mod.kin keep (thn (ha.r.run pos pins s1 σ H1 _ I1 args) fun us s2 ⟨vs, H2, J2, r, q⟩ => ⟨J2.kIn, run_fk G (cc.rm.mono kj) cc.gd bi cc.tk J2 r q⟩) h1 h2
def glosOf : List Vl → Option (List Str)
  | [] => some []
  | .glo x :: vs => (glosOf vs).map fun xs => x :: xs
  | _ => none
def eGlos (f : Av) : Ev := fun ρ S => (f ρ S).bind fun vs S1 => match glosOf vs with
  | some xs => if xs.length ≤ 1000 then .ok (.glos xs) S1 else .bad
  | none => .bad
@[simp] theorem ap_eGlos {f : Av} {ρ : Env} {S : Store} : eGlos f ρ S = (f ρ S).bind fun vs S1 => match glosOf vs with
  | some xs => if xs.length ≤ 1000 then .ok (.glos xs) S1 else .bad
  | none => .bad := rfl
theorem glos_of {K : PySem.W.Frag} {mg : Str → Option Value} {φ : Nat → Addr} {F : Addr → Prop} {H : Hp} {n : Nat} : ∀ {vs : List V} {ws : List Vl} {xs : List Str}, RepVs K mg φ F H n vs ws → glosOf ws = some xs → RepG mg vs xs ∧ vs.length = xs.length
  | [], [], xs, _, h => by cases h; exact ⟨trivial, rfl⟩
  | v :: vs, w :: ws, xs, r, h => by
    cases w with
    | glo x =>
      simp only [glosOf, Option.map_eq_some_iff] at h
      obtain ⟨ys, h1, rfl⟩ := h
      obtain ⟨a, b⟩ := glos_of r.2 h1
      exact ⟨⟨r.1, a⟩, by simp [b]⟩
    | _ => simp [glosOf] at h
  | [], _ :: _, _, r, _ => r.elim
  | _ :: _, [], _, r, _ => r.elim
theorem de_glos {X : Cx} {W : WX} {es : List Expr} {fs : Av} {kk : Nat} {pos : Pos} (h : DA τ X W es fs) : DE τ X W (.Tuple es kk pos) (eGlos fs) := ⟨PE.mono (pe_tup h.r) fun σ H Q ⟨φ, F, ρ, S, g, sl, p⟩ => ⟨φ, F, ρ, S, g, sl, PostG.bind g p fun φ1 F1 H1 S1 vs xs nw1 r1 p1 => by
  split at p1
  · rename_i ys q
    by_cases hl : ys.length ≤ 1000
    · rw [if_pos hl] at p1
      obtain ⟨a, b⟩ := glos_of r1 q
      refine ⟨by rw [b]; exact line1000 hl, fun t ht => ?_⟩
      have nw2 := nw1.sg.fresh (o := .tup xs) ht
      exact PostG.start nw1.sg nw2 p1 _ _ _ (.refl nw2.sg) _ ⟨t, xs, rfl, .inr rfl, upd_same, a⟩
    · rw [if_neg hl] at p1; exact p1.elim
  · exact p1.elim⟩⟩
theorem RepG.get {mg : Str → Option Value} : ∀ {vs : List V} {xs : List Str} {i : Nat} {x : Str}, RepG mg vs xs → xs[i]? = some x → ∃ v, vs[i]? = some v ∧ ∃ u, mg x = some u ∧ RelV v u
  | _ :: _, _ :: _, 0, _, h, e => by cases e; exact ⟨_, rfl, h.1⟩
  | _ :: _, _ :: _, i + 1, x, h, e => RepG.get (i := i) h.2 (by simpa using e)
  | [], _ :: _, _, _, h, _ => h.elim
  | [], [], _, _, _, e => by simp at e
  | _ :: _, [], _, _, _, e => by simp at e
theorem RepG.len {mg : Str → Option Value} : ∀ {vs : List V} {xs : List Str}, RepG mg vs xs → vs.length = xs.length
  | [], [], _ => rfl
  | _ :: _, _ :: _, h => by simp [RepG.len h.2]
  | [], _ :: _, h => h.elim
  | _ :: _, [], h => h.elim
def forG (g : Tg) (b : Sv) : List Str → Env → Store → SRes
  | [], ρ, S => .nx ρ S
  | x :: xs, ρ, S => match g (.glo x) ρ with
    | none => .bad
    | some ρ1 => match b ρ1 S with
      | .nx ρ2 S2 => forG g b xs ρ2 S2
      | .ct ρ2 S2 => forG g b xs ρ2 S2
      | .bk ρ2 S2 => .nx ρ2 S2
      | r => r
def sForG (f : Ev) (g : Tg) (b : Sv) : Sv := fun ρ S => (f ρ S).st ρ fun v S1 => match v with
  | .glos xs => forG g b xs ρ S1
  | _ => .bad
@[simp] theorem ap_sForG {f : Ev} {g : Tg} {b : Sv} {ρ : Env} {S : Store} : sForG f g b ρ S = (f ρ S).st ρ fun v S1 => match v with
  | .glos xs => forG g b xs ρ S1
  | _ => .bad := rfl
theorem ds_forG {X : Cx} {W : WX} {j : Nat} {tg it : Expr} {body : List Stmt} {pos : Pos} {f : Ev} {g : Tg} {ws : List Nat} {sb : Sv} (cc : Cc X W j) (h : DE τ X W it f) (hg : DG τ X tg g ws) (hb : DB τ X W body sb) (hs : ∀ x, foldedSetIterable it X.env x = pure x := by intro _; rfl) : DS τ X W (.For tg it body [] pos) (sForG f g sb) :=
  ⟨PS.mono (ps_for cc.po cc.calm (pi_seq h.r) hg.r hb.r hs) fun E σ H ⟨φ, F, ρ, S, gs, sl, p⟩ => ⟨φ, F, ρ, S, gs, sl, PostS.st (R := RepV X.K X.mg) gs sl p fun φ1 F1 H1 S1 v x nw1 r1 p1 => by
    cases v <;> first | exact p1.elim | skip
    rename_i xs
    obtain ⟨a, vs, rfl, fa, ha, rg⟩ := r1
    have p1 : PostS τ X.K X.mg W S1.length φ1 F1 H1 E (forG g sb xs ρ S1) := p1
    have at_ : ∀ {H2 : Hp}, Agree F1 H1 H2 → SqT X.K H2 a vs := fun ag => .inl (.inl ((ag a fa).trans ha))
    refine ⟨a, rfl, .inr ⟨⟨vs, at_ (fun _ _ => rfl)⟩, ?_⟩⟩
    have wk : Walk (Itt X.K a) xs.length (Agree F1 H1) (fun i H' v H'' => H'' = H' ∧ ∃ x, xs[i]? = some x ∧ ∃ u, X.mg x = some u ∧ RelV v u) := by
      refine ⟨fun i H2 hi ag => ?_, fun H2 ag => ⟨vs, at_ ag, by rw [rg.len]; exact Nat.le_refl _⟩, fun i H2 v H3 hi ag y => ?_⟩
      · obtain ⟨v, hv, _⟩ := rg.get (List.getElem?_eq_getElem hi)
        exact ⟨vs, v, at_ ag, hv⟩
      · obtain ⟨v', hv, ru⟩ := rg.get (List.getElem?_eq_getElem hi)
        have e := y.2 vs (at_ ag)
        rw [hv] at e
        cases e
        exact ⟨y.1, xs[i], List.getElem?_eq_getElem hi, ru⟩
    refine for_it wk (fun i σ2 H2 => ∃ φ2 F2 ρ2 S2, Now τ X.K S1.length φ1 F1 H1 φ2 F2 H2 S2 ∧ Slots X.K X.mg φ2 F2 H2 S2.length σ2 ρ2 ∧ PostS τ X.K X.mg W S2.length φ2 F2 H2 E (forG g sb (xs.drop i) ρ2 S2)) ⟨φ1, F1, ρ, S1, .refl nw1.sg, sl.now nw1, p1⟩ (fun i σ2 H2 _ ⟨_, _, _, _, n, _⟩ b hb => n.ext.same b hb) ?_ ?_
    · intro i v σ2 H2 H3 hlt ⟨φ2, F2, ρ2, S2, nw2, sl2, p2⟩ ⟨eH, x, hx, ru⟩
      subst eH
      have hdr : xs.drop i = x :: xs.drop (i + 1) := by
        obtain ⟨h1, h2⟩ := List.getElem?_eq_some_iff.mp hx
        rw [← h2, List.drop_eq_getElem_cons h1]
      rw [hdr] at p2
      refine ⟨φ2, F2, ρ2, S2, .glo x, nw2.sg, sl2, ru, ?_⟩
      unfold forG at p2
      cases q : g (.glo x) ρ2 with
      | none => rw [q] at p2; exact p2.elim
      | some ρ3 =>
        simp only [q] at p2 ⊢
        refine fun σ3 sl4 _ => ⟨φ2, F2, ρ3, S2, nw2.sg, sl4, ?_⟩
        cases e : sb ρ3 S2 with
        | nx ρ4 S4 =>
          simp only [e] at p2
          exact fun φ5 F5 H5 nw5 σ5 sl5 => ⟨φ5, F5, ρ4, S4, Now.trans nw1.sg nw2 nw5, sl5, PostS.start nw2.sg nw5 p2⟩
        | ct ρ4 S4 =>
          simp only [e] at p2
          exact fun φ5 F5 H5 nw5 σ5 sl5 => ⟨φ5, F5, ρ4, S4, Now.trans nw1.sg nw2 nw5, sl5, PostS.start nw2.sg nw5 p2⟩
        | bk ρ4 S4 => simp only [e] at p2; exact p2
        | ret v4 S4 => simp only [e] at p2; exact p2
        | ex x4 ρ4 S4 => simp only [e] at p2; exact p2
        | bad => simp only [e] at p2; exact p2
    · intro σ2 H2 ⟨φ2, F2, ρ2, S2, nw2, sl2, p2⟩
      rw [List.drop_length] at p2
      exact PostS.nx nw2.sg sl2 p2⟩⟩
structure TryF (K : PySem.W.Frag) (mg : Str → Option Value) (c : Str) (sub : Str → Option Bool) : Prop where
  ex : ∃ C : Addr, mg c = some (.ref C) ∧ ∀ (y : Str) (cls : Value) (b : Bool), mg y = some cls → sub y = some b → PySem.W.exmOne K cls (.ref C) = some b
theorem TryF.mk' {K : PySem.W.Frag} {mg : Str → Option Value} {c : Str} {h : Heap} {C : Addr} (X : K.In h) (G : h.Ns mainGlobals mg) (l : List (Str × Bool)) (a : PySem.W.nsIn K mainGlobals c = some (some (.ref C)))
    (all : ∀ p ∈ l, ∃ D : Addr, PySem.W.nsIn K mainGlobals p.1 = some (some (.ref D)) ∧ PySem.W.exmOne K (.ref D) (.ref C) = some p.2) : TryF K mg c (fun y => l.lookup y) := ⟨C, PySem.W.mg_of X G a, fun y cls b hy hb => by
  obtain ⟨D, h1, h2⟩ := all (y, b) (PySem.mem_of_lookup hb)
  rw [PySem.W.mg_of X G h1] at hy
  cases hy
  exact h2⟩
structure IsF (K : PySem.W.Frag) (mg : Str → Option Value) (c : Str) (kit : Str → Option Bool) : Prop where
  ex : ∃ (cv : Value) (c0 : V), (∀ u, RelV c0 u → u = cv) ∧ (∀ (X : Cx) (p : Pos), X.mg = mg → Gl X c → PE X (.Name c p) (tC c0)) ∧ ∀ (y : Str) (cls : Value) (b : Bool), mg y = some cls → kit y = some b → ∃ D : Addr, cls = .ref D ∧ PySem.W.kitOne K cls cv = some b ∧ ExcC K D
theorem isF_all {K : PySem.W.Frag} {mg : Str → Option Value} {h : Heap} {cv : Value} (X : K.In h) (G : h.Ns mainGlobals mg) (l : List (Str × Bool)) (all : ∀ p ∈ l, ∃ D : Addr, PySem.W.nsIn K mainGlobals p.1 = some (some (.ref D)) ∧ PySem.W.kitOne K (.ref D) cv = some p.2 ∧ ExcC K D) :
    ∀ (y : Str) (cls : Value) (b : Bool), mg y = some cls → l.lookup y = some b → ∃ D : Addr, cls = .ref D ∧ PySem.W.kitOne K cls cv = some b ∧ ExcC K D := fun y cls b hy hb => by
  obtain ⟨D, h1, h2, h3⟩ := all (y, b) (PySem.mem_of_lookup hb)
  rw [PySem.W.mg_of X G h1] at hy
  cases hy
  exact ⟨D, rfl, h2, h3⟩
theorem IsF.cls' {K : PySem.W.Frag} {mg : Str → Option Value} {c : Str} {h : Heap} {C : Addr} (X : K.In h) (G : h.Ns mainGlobals mg) (hd : (c == ("__debug__" : Str)) = false) (l : List (Str × Bool)) (a : PySem.W.nsIn K mainGlobals c = some (some (.ref C)))
    (all : ∀ p ∈ l, ∃ D : Addr, PySem.W.nsIn K mainGlobals p.1 = some (some (.ref D)) ∧ PySem.W.kitOne K (.ref D) (.ref C) = some p.2 ∧ ExcC K D) : IsF K mg c (fun y => l.lookup y) :=
  ⟨.ref C, .ref C, fun u h => h, fun Y p e hg => pe_glob hg (by rw [e]; exact PySem.W.mg_of X G a) rfl hd, isF_all X G l all⟩
theorem IsF.blt' {K : PySem.W.Frag} {mg : Str → Option Value} {c : Str} {h : Heap} {T : String} (X : K.In h) (G : h.Ns mainGlobals mg) (hd : (c == ("__debug__" : Str)) = false) (hn : c ≠ "__name__") (hb : bootBuiltins c = some (.type T)) (l : List (Str × Bool)) (a : PySem.W.nsIn K mainGlobals c = some none)
    (all : ∀ p ∈ l, ∃ D : Addr, PySem.W.nsIn K mainGlobals p.1 = some (some (.ref D)) ∧ PySem.W.kitOne K (.ref D) (.type T) = some p.2 ∧ ExcC K D) : IsF K mg c (fun y => l.lookup y) :=
  ⟨.type T, .ty T, fun u h => h, fun Y p e hg => pe_bltn hg (by rw [e]; exact PySem.W.mg_none_of X G a) hb rfl hn hd, isF_all X G l all⟩
def eIsK (i : Nat) (a : Addr) (o : Option Bool) : Ev := fun ρ S => match o with
  | some b => eIsE i a b ρ S
  | none => .bad
@[simp] theorem ap_eIsK {i : Nat} {a : Addr} {b : Bool} {ρ : Env} {S : Store} : eIsK i a (some b) ρ S = eIsE i a b ρ S := rfl
theorem de_isK {X : Cx} {a : Addr} {oe : Obj} {pn : List (Addr × Obj)} {n c y : Str} {cls : Value} {i : Nat} {kit : Str → Option Bool} {p p1 p2 pos : Pos} (I : IsF X.K X.mg c kit) (hc : Gl X c) (hy : X.mg y = some cls) (hz : Zc cls none oe) (hf : ∃ vs, oe.data = .fields vs) (hN : X.N[i]? = some n)
    (hg : Gl X "isinstance") (hm : X.mg "isinstance" = none) (hvis : Vis X.env.scope n := by first | exact Or.inl rfl | exact Or.inr (Or.inl rfl) | exact Or.inr (Or.inr rfl))
    (hd : (n == ("__debug__" : Str)) = false := by decide) (hcd : (n == ("__classdict__" : Str)) = false := by decide)
    (h1 : starEach [.Name n p1, .Name c p2] X.env = (false, eval (.Name n p1) X.env) :: starEach [.Name c p2] X.env := by rfl) (h2 : starEach [.Name c p2] X.env = (false, eval (.Name c p2) X.env) :: starEach [] X.env := by rfl) (h3 : (backTo pos (starEach [.Name c p2] X.env)).any (·.1) = false := by rfl) :
    DE τ (X.suite a ((a, oe) :: pn)) W0 (.Call (.Name "isinstance" p) [.Name n p1, .Name c p2] [] pos) (eIsK i a (kit y)) := by
  obtain ⟨cv, c0, h4, h5, h6⟩ := I.ex
  cases e : kit y with
  | none => exact ⟨PE.mono (t := fun _ _ _ => False) ⟨fun pins s σ H Q I h => h.elim⟩ fun σ H Q ⟨φ, F, ρ, S, g, sl, q⟩ => q⟩
  | some b =>
    obtain ⟨D, rfl, h7, h8⟩ := h6 y cls b hy e
    exact de_isE h8 hz hf hN hvis (h5 _ p2 rfl hc) h4 h7 hg hm hd hcd h1 h2 h3
theorem ds_tryF {X : Cx} {W : WX} {k i : Nat} {x n : Str} {body suite : List Stmt} {b₀ : Stmt} {np pos pos' : Pos} {fb : Sv} {sub : Str → Option Bool} {fs : Addr → Xn → Sv} (cc : Cc X W k) (T : TryF X.K X.mg x sub) (hi : X.N[i]? = some n) (hln : X.env.kindOf n = some .local) (hg : Gl X x)
    (hb : ∀ (W' : WX) (pn : List (Addr × Obj)) (xe : Value → Shared → Prop), Takes (X.tr pn xe) W' → Cc (X.tr pn xe) W' k → DB τ (X.tr pn xe) W' body fb)
    (hsu : ∀ (a : Addr) (oe : Obj) (y : Xn) (cls : Value) (pn : List (Addr × Obj)), X.mg y.cls = some cls → Zc cls none oe → (∃ vs, oe.data = .fields vs) → DB τ (X.suite a ((a, oe) :: pn)) W0 (b₀ :: suite) (fs a y))
    (hd : (x == ("__debug__" : Str)) = false := by decide) (hs : X.stack = X.env :: X.outer := by rfl) (hf : X.env.frame = some X.env.locals := by rfl) :
    DS τ X W (.Try body [.ExceptHandler (some (.Name x np)) (some n) (b₀ :: suite) pos'] [] [] pos) (sTryAs i fb sub fs) := by
  obtain ⟨C, h1, h2⟩ := T.ex
  exact ds_tryAs cc hi hln ⟨hg, hd, .inl h1⟩ h2 (fun W' pn xe tk po => hb W' pn xe tk (cc.tr tk po)) (fun a oe y cls pn e1 _ _ hz hv => (hsu a oe y cls pn e1 hz hv).r) hs hf
def eDic1 (m : Bool) (i : Int) (f : Ev) : Ev := fun ρ S => (f ρ S).bind fun v S1 => (fr v S1).bind fun d S2 => mkK m [(.int i, d)] S2
@[simp] theorem ap_eDic1 {m : Bool} {i : Int} {f : Ev} {ρ : Env} {S : Store} : eDic1 m i f ρ S = (f ρ S).bind fun v S1 => (fr v S1).bind fun d S2 => mkK m [(.int i, d)] S2 := rfl
theorem de_dic1 {X : Cx} {W : WX} {i : Int} {j : Nat} {e : Expr} {f : Ev} {p1 pos : Pos} (m : Bool) (h : DE τ X W e f) : DE τ X W (.Dict [some (.Constant (.int i) j p1)] [e] pos) (eDic1 m i f) :=
  ⟨PE.mono (pe_disp (pps_cons pe_int h.r pps_nil) (by rfl) (by rfl) (by simp) (by simp)) fun σ H Q ⟨φ, F, ρ, S, g, sl, p⟩ pD hD => by
    have nF : ¬ F pD := fun z => g.dom pD z hD
    have far : ∀ i, i < S.length → φ i ≠ pD := fun i hi => g.neAt hi hD
    have nw0 := (Now.refl g).other (o := .dK []) hD (.inl hD) g.dom nF far
    have p : Post τ X.K X.mg (fun c od H' => W c od σ H') S.length φ F H Q ((f ρ S).bind fun v S1 => (fr v S1).bind fun d S2 => mkK m [(.int i, d)] S2) := p
    refine ⟨φ, F, ρ, S, nw0.sg, sl.now nw0, ?_⟩
    cases e : f ρ S with
    | bad => rw [e] at p; exact p.elim
    | ex x S1 => rw [e] at p; exact fun φ1 F1 H1 nw1 c od rx => p φ1 F1 H1 (Now.trans g nw0 nw1) c od rx
    | ok v S1 =>
      rw [e] at p
      simp only [bind_ok] at p
      intro φ1 F1 H1 nw1 x r1
      have hne : fr v S1 ≠ .bad := fun z => by rw [z] at p; exact p
      obtain ⟨φ2, F2, S2, d, nw2, f2, e2⟩ := fr_ok nw1.sg r1 hne
      rw [e2] at p
      simp only [bind_ok] at p
      have nw12 := Now.trans nw0.sg nw1 nw2
      obtain ⟨a1, a2, a3⟩ := nw12.priv (p := pD) (by rw [upd_same]; simp) (by rw [upd_same]; simp) nF far
      rw [upd_same] at a1
      have nw3 := (Now.trans g nw0 nw12).other (o := .dK [(.inl i, x)]) hD (.inr ⟨_, a1, plain_dK⟩) g.dom a2 a3
      have fz3 : FzKv X.K F2 (upd H1 pD (.dK [(.inl i, x)])) [(.inl i, x)] [(.int i, d)] := .cons (f2.ext (fun _ z => z) fun a ha => upd_ne fun z => a2 (by rw [← z]; exact ha)) .nil
      refine ⟨a1, [(.inl i, x)], rfl, by simp, ?_⟩
      show Q (.ref pD) (upd H1 pD (.dK [(.inl i, x)]))
      cases m with
      | true => exact p _ _ _ (nw3.keep hD a3 ⟨a2, _, upd_same, fz3⟩) _ ⟨by simp, by simp⟩
      | false => exact p _ _ _ (nw3.take hD (by rw [upd_same]; simp) (by rw [upd_same]; simp) a3) _ (.dct (.inr rfl) upd_same (fz3.ext (fun _ z => .inl z) fun _ _ => rfl))⟩
structure DefL (τ : Tb) (K : PySem.W.Frag) (mg : Str → Option Value) (base : Heap) (x y : Str) (st : Stmt) : Prop where
  ex : ∃ (f : Addr) (oc : Value) (od : Option Addr) (kV doc pm : Value) (an : Option Addr) (c P : Addr) (ct : Value) (osl : Array (Option Value)), mg x = some (.ref f) ∧
    K.lookup f = some ⟨oc, od, .func (PySem.W.fnOf y y (defArgs st) (defBody st) (defScope st) .none kV doc pm an (.ref c) ct), osl⟩ ∧ PySem.W.codeIn K (.ref c) y = true ∧ PySem.W.keepIn K (.ref f) = true ∧
    LamX.TabB base mg c P ∧ (P, y ++ ".<locals>." ++ "<lambda>") ∈ τ ∧ ∀ q ∈ τ, q.1 = P → q.2 = y ++ ".<locals>." ++ "<lambda>"
theorem DefL.mk' {τ : Tb} {K : PySem.W.Frag} {mg : Str → Option Value} {base : Heap} {x y : Str} {st : Stmt} {h : Heap} {f : Addr} {oc : Value} {od : Option Addr} {kV doc pm : Value} {an : Option Addr} {c P : Addr} {ct : Value} {osl : Array (Option Value)} (X : K.In h) (G : h.Ns mainGlobals mg) (T : LamX.TabB base mg c P)
    (a : PySem.W.nsIn K mainGlobals x = some (some (.ref f))) (l : K.lookup f = some ⟨oc, od, .func (PySem.W.fnOf y y (defArgs st) (defBody st) (defScope st) .none kV doc pm an (.ref c) ct), osl⟩) (co : PySem.W.codeIn K (.ref c) y = true) (k : PySem.W.keepIn K (.ref f) = true)
    (inT : (P, y ++ ".<locals>." ++ "<lambda>") ∈ τ) (one : ∀ q ∈ τ, q.1 = P → q.2 = y ++ ".<locals>." ++ "<lambda>") : DefL τ K mg base x y st := ⟨f, oc, od, kV, doc, pm, an, c, P, ct, osl, PySem.W.mg_of X G a, l, co, k, T, inT, one⟩
section
variable {P : Program} {w : World} {K : PySem.W.Frag} {mg : Str → Option Value} {base : Heap}
theorem def_okL {x y : Str} {st : Stmt} {N ps : List Str} {k n : Nat} {b : Sv} (Fu : DefL τ K mg base x y st) (Sc : FnScope N ps (defScope st)) (hn : ps.length = n)
    (bi : ∀ (kV doc pm : Value) (an : Option Addr) (cdv ct : Value) (us : List Value), us.length = ps.length → bindArgs (PySem.W.fnOf y y (defArgs st) (defBody st) (defScope st) .none kV doc pm an cdv ct) ⟨us, []⟩ = pure (ps.zip us))
    (body : ∀ (f : Addr) (cdv : Value) (B : Around) (fs : List PySem.Env) (s : Shared) (H : Hp) (E : XK), Lh τ (cxD P w K mg base N y st f cdv B fs s H E) → Cc (cxD P w K mg base N y st f cdv B fs s H E) (wD E) k → DB τ (cxD P w K mg base N y st f cdv B fs s H E) (wD E) (defBody st) b) :
    DefOk τ P w K mg base (k + 1) n x (fnOf N.length b) := by
  obtain ⟨f, oc, od, kV, doc, pm, an, c, Pa, ct, osl, h1, h2, h3, h4, h5, h6, h7⟩ := Fu.ex
  have F := fun_mk (st := st) h2 h3 h4
  subst hn
  exact ⟨f, _, ps, fk_fnC F Sc (fun cdv hc B fs s H E => body f cdv B fs s H E ⟨c, Pa, hc.symm, h5, h6, h7⟩), h1, h4, F.binds bi⟩
theorem law_endL {st : Stmt} {N : List Str} {fa : Addr} {x y : Str} {k : Nat} {b : Sv} {p : Str} (Fu : DefL τ K mg base x y st) (hfa : mg x = some (.ref fa)) (Sc : FnScope N [p] (defScope st))
    (body : ∀ (f : Addr) (cdv : Value) (B : Around) (fs : List PySem.Env) (s : Shared) (H : Hp) (E : XK), Lh τ (cxD P w K mg base N y st f cdv B fs s H E) → Cc (cxD P w K mg base N y st f cdv B fs s H E) (wD E) k → DB τ (cxD P w K mg base N y st f cdv B fs s H E) (wD E) (defBody st) b) {fd : FuncData}
    (same : ∃ (oc : Value) (od : Option Addr) (osl : Array (Option Value)), K.lookup fa = some ⟨oc, od, .func fd, osl⟩) : Fk P w K mg base (k + 1) fa fd [p] (spN τ K mg 1 (fnOf N.length b)) := by
  obtain ⟨f, oc, od, kV, doc, pm, an, c, Pa, ct, osl, h1, h2, h3, h4, h5, h6, h7⟩ := Fu.ex
  have e := hfa.symm.trans h1
  cases e
  obtain ⟨oc2, od2, osl2, h⟩ := same
  rw [h2] at h
  cases h
  exact fk_fnC (fun_mk (st := st) h2 h3 h4) Sc fun cdv hc B fs s H E => body fa cdv B fs s H E ⟨c, Pa, hc.symm, h5, h6, h7⟩
theorem law_endF {st : Stmt} {N : List Str} {fa : Addr} {x y : Str} {k : Nat} {b : Sv} {p : Str} (Fu : DefF K mg x y st) (hfa : mg x = some (.ref fa)) (Sc : FnScope N [p] (defScope st))
    (body : ∀ (f : Addr) (cdv : Value) (B : Around) (fs : List PySem.Env) (s : Shared) (H : Hp) (E : XK), Cc (cxD P w K mg base N y st f cdv B fs s H E) (wD E) k → DB τ (cxD P w K mg base N y st f cdv B fs s H E) (wD E) (defBody st) b) {fd : FuncData}
    (same : ∃ (oc : Value) (od : Option Addr) (osl : Array (Option Value)), K.lookup fa = some ⟨oc, od, .func fd, osl⟩) : Fk P w K mg base (k + 1) fa fd [p] (spN τ K mg 1 (fnOf N.length b)) := by
  obtain ⟨f, oc, od, kV, doc, pm, an, cdv, ct, osl, h1, h2, h3, h4⟩ := Fu.ex
  have e := hfa.symm.trans h1
  cases e
  obtain ⟨oc2, od2, osl2, h⟩ := same
  rw [h2] at h
  cases h
  exact fk_fn (fun_mk (st := st) h2 h3 h4) Sc fun cdv B fs s H E => body fa cdv B fs s H E
theorem law_fd {x y : Str} {st : Stmt} {fa : Addr} {p : Str} {h : Heap} {f : Addr} {oc : Value} {od : Option Addr} {kV doc pm : Value} {an : Option Addr} {cdv ct : Value} {osl : Array (Option Value)} (X : K.In h) (G : h.Ns mainGlobals mg) (hfa : mg x = some (.ref fa)) (a : PySem.W.nsIn K mainGlobals x = some (some (.ref f)))
    (l : K.lookup f = some ⟨oc, od, .func (PySem.W.fnOf y y (defArgs st) (defBody st) (defScope st) .none kV doc pm an cdv ct), osl⟩)
    (bi : ∀ (kV doc pm : Value) (an : Option Addr) (cdv ct : Value) (s : Shared) (v : Value), BindsTo s (PySem.W.fnOf y y (defArgs st) (defBody st) (defScope st) .none kV doc pm an cdv ct) ⟨[v], []⟩ [(p, v)]) :
    ∃ fd : FuncData, (∃ (oc : Value) (od : Option Addr) (osl : Array (Option Value)), K.lookup fa = some ⟨oc, od, .func fd, osl⟩) ∧ ∀ (s : Shared) (u : Value), BindsTo s fd ⟨[u], []⟩ [(p, u)] := by
  have e := hfa.symm.trans (PySem.W.mg_of X G a)
  cases e
  exact ⟨_, ⟨_, _, _, l⟩, fun s u => bi _ _ _ _ _ _ s u⟩
theorem lam_ok {x y a : Str} {st : Stmt} {N : List Str} {k : Nat} {b : Ev → Sv} {gw : Ev → Fn} (Fu : DefF K mg x y st) (Sc : FnScope N [a] (defScope st)) (h0 : N[0]? = some a) (vis : Vis (defScope st) a) (d1 : (a == ("__debug__" : Str)) = false) (d2 : (a == ("__classdict__" : Str)) = false) (hg : ∀ act, gw act = fnOf N.length (b act))
    (bi : ∀ (kV doc pm : Value) (an : Option Addr) (cdv ct : Value) (us : List Value), us.length = 1 → bindArgs (PySem.W.fnOf y y (defArgs st) (defBody st) (defScope st) .none kV doc pm an cdv ct) ⟨us, []⟩ = pure (([a] : List Str).zip us))
    (body : ∀ (f : Addr) (cdv : Value) (B : Around) (fs : List PySem.Env) (s : Shared) (H : Hp) (E : XK) (act : Ev), Cc (cxD P w K mg base N y st f cdv B fs s H E) (wD E) k →
      (∀ (W : WX) (pn : List (Addr × Obj)) (xe : Value → Shared → Prop) (p1 p2 : Pos), Takes ((cxD P w K mg base N y st f cdv B fs s H E).tr pn xe) W → DE τ ((cxD P w K mg base N y st f cdv B fs s H E).tr pn xe) W (.Call (.Name a p1) [] [] p2) act) →
      DB τ (cxD P w K mg base N y st f cdv B fs s H E) (wD E) (defBody st) (b act)) : LamOk τ P w K mg base k x gw := by
  obtain ⟨f, oc, od, kV, doc, pm, an, cdv, ct, osl, h1, h2, h3, h4⟩ := Fu.ex
  have F := fun_mk (st := st) h2 h3 h4
  exact ⟨f, y, a, st, _, N, b, F, h1, h4, F.binds bi, Sc, h0, vis, d1, d2, hg, fun cdv B fs s H E act cc ha => body f cdv B fs s H E act cc ha⟩
end
theorem tab_use {K : PySem.W.Frag} {h : Heap} {q : Program} {x : Str} {f c P : Addr} {goal : Prop} {e : DefRec} {oc : Value} {od : Option Addr} {fd : FuncData} {osl : Array (Option Value)} {oc2 : Value} {od2 : Option Addr} {vs : Array Value} {osl2 : Array (Option Value)}
    (TT : ∀ (y : Str) (e : DefRec) (c P : Addr), (recsOf q).find? (fun e => e.name == y) = some e → PySem.W.tabIn K y = some (c, P) → PySem.W.CodeHd h c P ∧ h.get? P = some (PySem.W.tabObj #[]))
    (r : (recsOf q).find? (fun e => e.name == x) = some e) (a : PySem.W.nsIn K mainGlobals x = some (some (.ref f))) (l : K.lookup f = some ⟨oc, od, .func fd, osl⟩) (hc : fd.code = .ref c) (lc : K.lookup c = some ⟨oc2, od2, .fields vs, osl2⟩) (v : vs[11]? = some (.ref P)) (n : K.lookup P = none)
    (k : PySem.W.CodeHd h c P ∧ h.get? P = some (PySem.W.tabObj #[]) → K.lookup P = none → goal) : goal := by
  refine k (TT x e c P r ?_) n
  unfold PySem.W.tabIn
  rw [a]
  simp only [l, hc, lc, v]
theorem law_use {K : PySem.W.Frag} {mg : Str → Option Value} {x y : Str} {st : Stmt} {fa : Addr} {p : Str} {h : Heap} {f : Addr} {oc : Value} {od : Option Addr} {kV doc pm : Value} {an : Option Addr} {cdv ct : Value} {osl : Array (Option Value)} {goal : Prop} (X : K.In h) (G : h.Ns mainGlobals mg) (hfa : mg x = some (.ref fa)) (a : PySem.W.nsIn K mainGlobals x = some (some (.ref f)))
    (l : K.lookup f = some ⟨oc, od, .func (PySem.W.fnOf y y (defArgs st) (defBody st) (defScope st) .none kV doc pm an cdv ct), osl⟩)
    (bi : ∀ (kV doc pm : Value) (an : Option Addr) (cdv ct : Value) (s : Shared) (v : Value), BindsTo s (PySem.W.fnOf y y (defArgs st) (defBody st) (defScope st) .none kV doc pm an cdv ct) ⟨[v], []⟩ [(p, v)])
    (k : ∀ fd : FuncData, (∃ (oc : Value) (od : Option Addr) (osl : Array (Option Value)), K.lookup fa = some ⟨oc, od, .func fd, osl⟩) → (∀ (s : Shared) (u : Value), BindsTo s fd ⟨[u], []⟩ [(p, u)]) → goal) : goal := by
  obtain ⟨fd, h1, h2⟩ := law_fd X G hfa a l bi
  exact k fd h1 h2
abbrev IsL (K : PySem.W.Frag) (cv : Value) (l : List (Str × Bool)) : Prop := ∀ p ∈ l, ∃ D : Addr, PySem.W.nsIn K mainGlobals p.1 = some (some (.ref D)) ∧ PySem.W.kitOne K (.ref D) cv = some p.2 ∧ ExcC K D
theorem is_nil {K : PySem.W.Frag} {cv : Value} : IsL K cv [] := fun _ h => nomatch h
theorem is_cons {K : PySem.W.Frag} {cv : Value} {x : Str} {b : Bool} {l : List (Str × Bool)} {D : Addr} (a : PySem.W.nsIn K mainGlobals x = some (some (.ref D))) (k : PySem.W.kitOne K (.ref D) cv = some b)
    (e1 : PySem.W.findIn K (.ref D) "__getattribute__" = some (some (.builtin "BaseException.__getattribute__"))) (e2 : PySem.W.findIn K (.ref D) "__getattr__" = some none) (e3 : PySem.W.subIn K (.ref D) (.type "BaseException") = some true) (e4 : PySem.W.hasDictIn K D = true)
    (e5 : PySem.W.findIn K (.ref D) "__class__" = some (some (.builtin "object.__class__"))) (e6 : PySem.W.specialIn K (.builtin "object.__class__") "__get__" = some (some (.builtin "getset_descriptor.__get__"))) (e7 : PySem.W.takesIn K (.builtin "object.__class__") = some true)
    (e8 : PySem.W.mroIn K D (.type "object") = some true) (r : IsL K cv l) : IsL K cv ((x, b) :: l) := fun p hp => by
  rcases List.mem_cons.mp hp with rfl | hp
  · exact ⟨D, a, k, e1, e2, e3, e4, e5, e6, e7, e8⟩
  · exact r p hp
abbrev TrL (K : PySem.W.Frag) (C : Addr) (l : List (Str × Bool)) : Prop := ∀ p ∈ l, ∃ D : Addr, PySem.W.nsIn K mainGlobals p.1 = some (some (.ref D)) ∧ PySem.W.exmOne K (.ref D) (.ref C) = some p.2
theorem tr_nil {K : PySem.W.Frag} {C : Addr} : TrL K C [] := fun _ h => nomatch h
theorem tr_cons {K : PySem.W.Frag} {C : Addr} {x : Str} {b : Bool} {l : List (Str × Bool)} {D : Addr} (a : PySem.W.nsIn K mainGlobals x = some (some (.ref D))) (k : PySem.W.exmOne K (.ref D) (.ref C) = some b) (r : TrL K C l) : TrL K C ((x, b) :: l) := fun p hp => by
  rcases List.mem_cons.mp hp with rfl | hp
  · exact ⟨D, a, k⟩
  · exact r p hp
theorem de_gloD {X : Cx} {W : WX} {x y : Str} {st : Stmt} {pos : Pos} (D : DefF X.K X.mg x y st) (hg : Gl X x) (hd : (x == ("__debug__" : Str)) = false := by decide) : DE τ X W (.Name x pos) (eGlo x) := by
  obtain ⟨f, oc, od, kV, doc, pm, an, cdv, ct, osl, h1, _⟩ := D.ex
  exact de_glo (v := .ref f) hg h1 rfl hd
abbrev TblL (τ : Tb) (P : Program) (w : World) (K : PySem.W.Frag) (mg : Str → Option Value) (base : Heap) (j : Nat) (l : List (Str × (Nat × Fn))) : Prop := ∀ p ∈ l, ∃ k, k ≤ j ∧ DefOk τ P w K mg base k p.2.1 p.1 p.2.2
section
variable {P : Program} {w : World} {K : PySem.W.Frag} {mg : Str → Option Value} {base : Heap} {j : Nat}
theorem tbl_nil : TblL τ P w K mg base j [] := fun _ h => nomatch h
theorem tbl_cons {k n : Nat} {x : Str} {g : Fn} {l : List (Str × (Nat × Fn))} (ok : DefOk τ P w K mg base k n x g) (h : k ≤ j) (r : TblL τ P w K mg base j l) : TblL τ P w K mg base j ((x, (n, g)) :: l) := fun p hp => by
  rcases List.mem_cons.mp hp with rfl | hp
  · exact ⟨k, h, ok⟩
  · exact r p hp
theorem tbl_use {l : List (Str × (Nat × Fn))} (h : TblL τ P w K mg base j l) : ∀ x n g, l.lookup x = some (n, g) → ∃ k, k ≤ j ∧ DefOk τ P w K mg base k n x g := fun x n g e => h (x, (n, g)) (PySem.mem_of_lookup e)
end
theorem lcL_filt {tg : Tg} {t : Tv} {f : Ev} {ρ : Env} (p : D → Bool) {S : Store} : ∀ (xs acc : List D), (∀ x ∈ xs, ∃ ρ1, tg (.d x) ρ = some ρ1 ∧ t ρ1 S = .ok (p x) S ∧ f ρ1 S = .ok (.d x) S) → acc.length + xs.length ≤ 16000000 → lcL tg t f ρ xs acc S = .ok (acc ++ xs.filter p) S
  | [], acc, _, _ => by simp
  | x :: xs, acc, h, hl => by
    obtain ⟨ρ1, e1, e2, e3⟩ := h x (by simp)
    have hl' : acc.length + (xs.length + 1) ≤ 16000000 := hl
    have hs : acc.length < sizeLine := Nat.lt_of_lt_of_le (by omega) (show 16000000 ≤ sizeLine by decide)
    unfold lcL
    cases q : p x with
    | true =>
      have ih := lcL_filt p (S := S) xs (acc ++ [x]) (fun y hy => h y (by simp [hy])) (by simp; omega)
      rw [q] at e2
      simp only [e1, e2, noX_ok, bind_ok, if_true, e3, fr_d, hs]
      rw [ih]
      simp [q]
    | false =>
      have ih := lcL_filt p (S := S) xs acc (fun y hy => h y (by simp [hy])) (by omega)
      rw [q] at e2
      simp only [e1, e2, noX_ok, bind_ok, Bool.false_eq_true, if_false]
      rw [ih]
      simp [q]
def headD : List D → D
  | [] => .none
  | x :: _ => x
theorem head_find (p : D → Bool) : ∀ xs : List D, headD (xs.filter p) = (xs.find? p).getD .none
  | [] => rfl
  | x :: xs => by
    cases h : p x with
    | true => simp [h, headD]
    | false => simp [h, head_find p xs]
theorem head_mem {xs : List D} : headD xs = .none ∨ headD xs ∈ xs := by
  cases xs with
  | nil => exact .inl rfl
  | cons x xs => exact .inr (by simp [headD])
theorem forL_find {i : Nat} {sb : Sv} (p : D → Bool) {S : Store} {I : Env → Prop} (hi : ∀ ρ x, I ρ → I (ρ.set i (some (.d x)))) (hlen : ∀ ρ, I ρ → i < ρ.length) :
    ∀ (xs : List D), (∀ ρ x, x ∈ xs → I ρ → ρ[i]? = some (some (.d x)) → sb ρ S = if p x = true then .ret (.d x) S else .nx ρ S) → ∀ (ρ : Env), I ρ → (∀ x, xs.find? p = some x → forL (gN i) sb xs ρ S = .ret (.d x) S) ∧ (xs.find? p = none → ∃ ρ', I ρ' ∧ forL (gN i) sb xs ρ S = .nx ρ' S)
  | [], _, ρ, h => ⟨fun x e => by simp at e, fun _ => ⟨ρ, h, rfl⟩⟩
  | x :: xs, step, ρ, h => by
    have s := step (ρ.set i (some (.d x))) x (by simp) (hi ρ x h) (by simp [hlen ρ h])
    have ih := forL_find p hi hlen xs (fun ρ y hy => step ρ y (by simp [hy])) (ρ.set i (some (.d x))) (hi ρ x h)
    rw [ap_forL1]
    simp only [ap_gN]
    rw [s]
    cases q : p x with
    | true =>
      simp only [if_true]
      exact ⟨fun y e => by rw [List.find?_cons_of_pos q] at e; cases e; rfl, fun e => by rw [List.find?_cons_of_pos q] at e; cases e⟩
    | false =>
      simp only [Bool.false_eq_true, if_false]
      rw [List.find?_cons_of_neg (by simp [q])]
      exact ih
theorem rangeD_mem {lo hi : Int} {d : D} (h : d ∈ rangeD lo hi) : ∃ i : Int, d = .int i ∧ lo ≤ i ∧ i < hi := by
  obtain ⟨k, hk, rfl⟩ := List.mem_map.mp h
  rw [List.mem_range] at hk
  exact ⟨lo + (k : Nat), rfl, by omega, by omega⟩
theorem tup_one (l : Addr) (items : Array Value) (n : Nat) (dd : Option Addr) (sl : Array (Option Value)) (x : Int) (u : Tok) (c0 : (decide (x < -(2 ^ 63)) || decide (x ≥ 2 ^ 63)) = false) (c1 : (items.isEmpty || x == 1) = true) :
    Meets (Builtin.«tuple.__mul__» ⟨[.ref l, .int x u], []⟩) (fun _ R s => s.heap.get? l = some { cls := .type "tuple", dict := dd, data := .seq items n, slots := sl } ∧ R (.ok (.ret (Value.ref l))) s) :=
  .of_wp fun prog w A R s h => by
    obtain ⟨hp, g, d, tk, os⟩ := s
    obtain ⟨hl, h⟩ := h
    have f1 := AutoSeq1.idx_int
    wp_walk using wpAny_loadPart' hl
    repeat (first
      | (refine wpAny_ite_false (decide_eq_false (by rw [c0]; exact Bool.false_ne_true)) ?_; wp_walk using wpAny_loadPart' hl)
      | (refine wpAny_ite_true (decide_eq_true c1) ?_; wp_walk using wpAny_loadPart' hl))
    exact ⟨_, rfl, h⟩
theorem tup_zero (l : Addr) (items : Array Value) (n : Nat) (dd : Option Addr) (sl : Array (Option Value)) (x : Int) (u : Tok) (c0 : (decide (x < -(2 ^ 63)) || decide (x ≥ 2 ^ 63)) = false) (c1 : (items.isEmpty || x == 1) = false) (c2 : (decide (x ≤ 0) || items.isEmpty) = true) :
    Meets (Builtin.«tuple.__mul__» ⟨[.ref l, .int x u], []⟩) (fun _ R s => s.heap.get? l = some { cls := .type "tuple", dict := dd, data := .seq items n, slots := sl } ∧
      R (.ok (.ret (Value.ref s.heap.objs.size))) { s with heap := s.heap.push { cls := Value.type "tuple", data := Data.seq #[] }, toks := s.toks }) :=
  .of_wp fun prog w A R s h => by
    obtain ⟨hp, g, d, tk, os⟩ := s
    obtain ⟨hl, h⟩ := h
    have f1 := AutoSeq1.idx_int
    wp_walk using wpAny_loadPart' hl
    repeat (first
      | (refine wpAny_ite_false (decide_eq_false (by rw [c0]; exact Bool.false_ne_true)) ?_; wp_walk using wpAny_loadPart' hl)
      | (refine wpAny_ite_false (decide_eq_false (by rw [c1]; exact Bool.false_ne_true)) ?_; wp_walk using wpAny_loadPart' hl)
      | (refine wpAny_ite_true (decide_eq_true c2) ?_; wp_walk using wpAny_loadPart' hl))
    exact ⟨_, rfl, h⟩
def rRepS (K : PySem.W.Frag) : R2 := fun x y H Q => ∃ l k xs, x = .ref l ∧ y = .int k ∧ SqT K H l xs ∧ xs ≠ [] ∧ ((k = 1 ∧ Q (.ref l) H) ∨ (k = 0 ∧ ∀ p, H p = none → Q (.ref p) (upd H p (.tup []))))
theorem op_repS {X : Cx} : OpR X (binaryOp .Mult) (rRepS X.K) := by
  intro pins s σ H x y v u Q I rx ry h
  obtain ⟨l, k, xs, rfl, rfl, hT, hne, q⟩ := h
  cases rx
  obtain ⟨t, rfl⟩ := ry
  obtain ⟨its, r, ⟨⟨cls, dd, data, sl⟩, ho, hc, n, hd⟩, hs⟩ := I.tuple hT
  simp only at hc hd
  subst hc hd
  have hle : its.length = xs.length := r.length.symm
  have full : its.toArray.isEmpty = false := by
    cases its with
    | nil => exact absurd (List.eq_nil_of_length_eq_zero hle.symm) hne
    | cons a b => rfl
  rcases q with ⟨rfl, q⟩ | ⟨rfl, q⟩
  · refine wpAny_binaryOp_repeat_ref (T := "tuple") (U := "int") (by decide) ⟨_, ho, rfl⟩ (fun s' => typeIs_int s' 1 t) noFill_tuple_mul F.fills_int_mul F.slot_int_rmul repeat_tuple F.slot_int_index.lookup
      (call_meets F.slot_int_rmul (typeIs_int s 1 t) F.entry_int_rmul (F.args_int_rmul_2 _ _) (int_rmul_tuple 1 t l its.toArray n dd sl)
        ⟨ho, rfl, ⟨_, ho, rfl⟩, call_meets F.slot_tuple_mul ⟨_, ho, rfl⟩ F.entry_tuple_mul (F.args_tuple_mul_2 _ _) (tup_one l its.toArray n dd sl 1 t (by decide) (by rw [full]; rfl)) ⟨ho, ?_⟩⟩)
    exact ⟨.ref l, H, I, rfl, q⟩
  · refine wpAny_binaryOp_repeat_ref (T := "tuple") (U := "int") (by decide) ⟨_, ho, rfl⟩ (fun s' => typeIs_int s' 0 t) noFill_tuple_mul F.fills_int_mul F.slot_int_rmul repeat_tuple F.slot_int_index.lookup
      (call_meets F.slot_int_rmul (typeIs_int s 0 t) F.entry_int_rmul (F.args_int_rmul_2 _ _) (int_rmul_tuple 0 t l its.toArray n dd sl)
        ⟨ho, rfl, ⟨_, ho, rfl⟩, call_meets F.slot_tuple_mul ⟨_, ho, rfl⟩ F.entry_tuple_mul (F.args_tuple_mul_2 _ _) (tup_zero l its.toArray n dd sl 0 t (by decide) (by rw [full]; rfl) (by rfl)) ⟨ho, ?_⟩⟩)
    refine ⟨.ref s.heap.objs.size, _, I.laid (t' := s.toks) (o := .tup []) (fun b ob q => Heap.get?_push_of_some _ q) (Nat.le_refl _) ?_, rfl, q _ (I.hok.fresh (Nat.le_refl _))⟩
    exact ⟨Nat.zero_le _, [], .nil, IsTup.new _ _⟩
def oMulT (m : Bool) (a b : Vl) (S : Store) : Res Vl := match view S a, view S b with
  | some (.tuple xs), some (.int k) => if xs ≠ [] ∧ k = 1 then .ok (.d (.tuple xs)) S else if xs ≠ [] ∧ k = 0 then .ok (.d (.tuple [])) S else oMul m a b S
  | _, _ => oMul m a b S
theorem op_mulT {X : Cx} : OpR X (binaryOp .Mult) (fun x y H Q => (rMulX x y H Q ∨ rRep x y H Q ∨ rRepT X.K x y H Q) ∨ rRepS X.K x y H Q) := fun pins s σ H x y v u Q I rx ry h => h.elim (op_mulX' pins s σ H x y v u Q I rx ry) (op_repS pins s σ H x y v u Q I rx ry)
theorem ok_mulT {K : PySem.W.Frag} {mg : Str → Option Value} {m : Bool} : OpOk τ K mg (fun x y H Q => (rMulX x y H Q ∨ rRep x y H Q ∨ rRepT K x y H Q) ∨ rRepS K x y H Q) (oMulT m) := by
  intro φ F H S x y v u Q W g r1 r2 p
  unfold oMulT at p
  split at p
  · rename_i xs k e1 e2
    have o1 := ob_of g r1 e1
    have o2 := ob_of g r2 e2
    obtain ⟨a, ys, rfl, h1, h2⟩ := o1
    have o2 : y = .int k := o2
    split at p
    · rename_i c
      refine .inr ⟨a, k, ys, rfl, o2, h1.sq, fun z => c.1 (by have := h2.len; rw [z] at this; exact List.eq_nil_of_length_eq_zero this.symm), .inl ⟨c.2, Post.ok g p (.tup h1 h2)⟩⟩
    · split at p
      · rename_i c
        exact .inr ⟨a, k, ys, rfl, o2, h1.sq, fun z => c.1 (by have := h2.len; rw [z] at this; exact List.eq_nil_of_length_eq_zero this.symm), .inr ⟨c.2, Post.newT g .nil p⟩⟩
      · exact .inl (ok_mul g r1 r2 p)
  · exact .inl (ok_mul g r1 r2 p)
open Classical in
noncomputable def lcLM (k : Nat) (ds0 : List D) (g : Tg) (t : Tv) (e : Ev) (ρ : Env) : List D → List D → Store → Res (List D)
  | [], acc, S => if S[k]? = some (.lst ds0) then .ok acc S else .bad
  | x :: xs, acc, S => if S[k]? = some (.lst ds0) then match g (.d x) ρ with
    | none => .bad
    | some ρ1 => (noX (t ρ1 S)).bind fun c S1 => if c = true then (noX (e ρ1 S1)).bind fun v S2 => (fr v S2).bind fun d S3 => if acc.length < sizeLine then lcLM k ds0 g t e ρ xs (acc ++ [d]) S3 else .bad
      else lcLM k ds0 g t e ρ xs acc S1
    else .bad
noncomputable def eLcM (m : Bool) (it : List D → List D) (f : Ev) (g : Tg) (t : Tv) (e : Ev) (vs : List Nat) : Ev := fun ρ S => (f ρ S).bind fun v S1 => match v with
  | .loc k => match S1[k]? with
    | some (.lst ds) => (lcLM k ds g t e (wipeE ρ vs) (it ds) [] S1).bind fun acc S2 => mkL m acc S2
    | _ => .bad
  | _ => .bad
@[simp] theorem ap_eLcM {m : Bool} {it : List D → List D} {f : Ev} {g : Tg} {t : Tv} {e : Ev} {vs : List Nat} {ρ : Env} {S : Store} : eLcM m it f g t e vs ρ S = (f ρ S).bind fun v S1 => match v with
  | .loc k => match S1[k]? with
    | some (.lst ds) => (lcLM k ds g t e (wipeE ρ vs) (it ds) [] S1).bind fun acc S2 => mkL m acc S2
    | _ => .bad
  | _ => .bad := rfl
structure Ml (K : PySem.W.Frag) (J : It) (a : Addr) (it : List D → List D) : Prop where
  len : ∀ ds, (it ds).length = ds.length
  goes : ∀ i H xs, H a = some (.lst xs) → i < xs.length → J.go i H
  stops : ∀ H xs, H a = some (.lst xs) → J.stop xs.length H
  yields : ∀ i F H xs ds v H'', H a = some (.lst xs) → FzAll K F H xs ds → i < ds.length → J.yld i H v H'' → ∃ d, (it ds)[i]? = some d ∧ YI K F H H v H'' d
theorem ml_list {K : PySem.W.Frag} {a : Addr} : Ml K (Itl K a) a fun ds => ds := by
  refine ⟨fun ds => rfl, fun i H xs h hi => ⟨xs, xs[i], .inl (.inl h), by simp [hi]⟩, fun H xs h => ⟨xs, .inl (.inl h), Nat.le_refl _⟩, fun i F H xs ds v H'' h fz hi y => ?_⟩
  obtain ⟨v', hv, fv⟩ := fz.get (List.getElem?_eq_getElem hi)
  have e := y.2 xs (.inl (.inl h))
  rw [hv] at e
  cases e
  exact ⟨ds[i], List.getElem?_eq_getElem hi, .inl ⟨y.1, fv⟩⟩
theorem ml_enum {K : PySem.W.Frag} {a : Addr} : Ml K (Ite K a) a enumD := by
  refine ⟨fun ds => enumD_len, fun i H xs h hi => ⟨xs, xs[i], .inl (.inl h), by simp [hi]⟩, fun H xs h => ⟨xs, .inl (.inl h), Nat.le_refl _⟩, fun i F H xs ds v H'' h fz hi y => ?_⟩
  obtain ⟨v', hv, fv⟩ := fz.get (List.getElem?_eq_getElem hi)
  obtain ⟨T, x, e1, e2, e3, e4⟩ := y
  have e := e4 xs (.inl (.inl h))
  rw [hv] at e
  cases e
  exact ⟨_, enumD_get hi, .inr ⟨T, _, _, e1, e2, e3, rfl, .cons (.int _) (.cons fv .nil)⟩⟩
section
variable {X : Cx} {W : WX} {tg elt : Expr} {ifs : List Expr} {scope : Scope} {own : List (Str × Nat)} {pos : Pos} {f : Ev} {g : Tg} {ws : List Nat} {t : Tv} {e : Ev}
theorem lcm_core {m : Bool} {vs : List Nat} {k : Nat} {ds : List D} {it : List D → List D} (hw : ∀ i, i ∈ ws → i ∈ vs) {σ : L2.St} {ρ : Env} {Q : VK} {φ1 : Nat → Addr} {F1 : Addr → Prop} {H1 : Hp} {S1 : Store} {J : It} {Wx : XW} (gs : SG τ X.K φ1 F1 H1 S1) (sl1 : Slots X.K X.mg φ1 F1 H1 S1.length σ ρ) (hk : S1[k]? = some (.lst ds)) (ml : Ml X.K J (φ1 k) it)
    (p1 : Post τ X.K X.mg Wx S1.length φ1 F1 H1 Q ((lcLM k ds g t e (wipeE ρ vs) (it ds) [] S1).bind fun acc S2 => mkL m acc S2)) :
    ∀ D, H1 D = none → ∃ W : Nat → Nat → Hp → Prop, (∃ m, W 0 m (upd H1 D (.lst []))) ∧ ∀ i m H, W i m H →
  (J.stop i H ∧ Q (.ref D) H) ∨ (J.go i H ∧ ∃ Nx : Hp → Prop, (∀ H', Nx H' → ∃ m', m' < m ∧ W (i + 1) m' H') ∧ ∀ x H', J.yld i H x H' → RG τ X.K X.mg g ws x (wipe σ vs) H' fun σ2 H2 => wipe σ2 vs = wipe σ vs ∧ RT τ X.K X.mg W0 t σ2 H2 fun b H3 =>
    if b = true then RE τ X.K X.mg W0 e σ2 H3 fun y H4 => ∃ acc, H4 D = some (.lst acc) ∧ acc.length < sizeLine ∧ Nx (upd H4 D (.lst (acc ++ [y]))) else Nx H3) := by
  intro Dd hD
  have dom1 := gs.dom
  have nF1 : ¬ F1 Dd := fun h => dom1 Dd h hD
  have hk1 : k < S1.length := (List.getElem?_eq_some_iff.mp hk).1
  have live : ∀ {i : Nat} {H2 : Hp} {φ2 : Nat → Addr} {F2 : Addr → Prop} {S2 : Store} {acc : List D}, Now τ X.K S1.length φ1 F1 H1 φ2 F2 H2 S2 → Post τ X.K X.mg Wx S1.length φ1 F1 H1 Q ((lcLM k ds g t e (wipeE ρ vs) ((it ds).drop i) acc S2).bind fun acc S2 => mkL m acc S2) → S2[k]? = some (.lst ds) ∧ ∃ xs, H2 (φ1 k) = some (.lst xs) ∧ FzAll X.K F2 H2 xs ds := by
    intro i H2 φ2 F2 S2 acc nw p
    have h : S2[k]? = some (.lst ds) := by
      cases q : (it ds).drop i with
      | nil =>
        rw [q] at p
        unfold lcLM at p
        by_cases h : S2[k]? = some (.lst ds)
        · exact h
        · rw [if_neg h] at p; exact p.elim
      | cons y ys =>
        rw [q] at p
        unfold lcLM at p
        by_cases h : S2[k]? = some (.lst ds)
        · exact h
        · rw [if_neg h] at p; exact p.elim
    obtain ⟨_, xs, h2, h3⟩ := nw.sg.obj k _ h
    rw [nw.ext.loc k hk1] at h2
    exact ⟨h, xs, h2, h3⟩
  refine lc_it (n := ds.length) (G := fun H => ∃ xs, H (φ1 k) = some (.lst xs) ∧ xs.length = ds.length) (Y := fun i H x H' => J.yld i H x H') ⟨fun i H hi ⟨xs, h, hl⟩ => ml.goes i H xs h (by omega), fun H ⟨xs, h, hl⟩ => by rw [← hl]; exact ml.stops H xs h, fun _ _ _ _ _ _ y => y⟩
    (fun i H2 => ∃ φ2 F2 S2 xs acc, Now τ X.K S1.length φ1 F1 H1 φ2 F2 H2 S2 ∧ H2 Dd = some (.lst xs) ∧ ¬ F2 Dd ∧ (∀ i, i < S2.length → φ2 i ≠ Dd) ∧ FzAll X.K F2 H2 xs acc ∧
      Post τ X.K X.mg Wx S1.length φ1 F1 H1 Q ((lcLM k ds g t e (wipeE ρ vs) ((it ds).drop i) acc S2).bind fun acc S2 => mkL m acc S2))
    ⟨φ1, F1, S1, [], [], (Now.refl gs).other hD (.inl hD) dom1 nF1 fun i hi => gs.neAt hi hD, upd_same, nF1, fun i hi => gs.neAt hi hD, .nil, p1⟩ (fun i H2 _ ⟨φ2, F2, S2, xs, acc, n, _, _, _, _, p2⟩ => by
      obtain ⟨_, ys, h2, h3⟩ := live n p2
      exact ⟨ys, h2, h3.len⟩) ?_ ?_
  · intro i v H2 H3 hlt ⟨φ2, F2, S2, xs, acc, nw2, d2, f2, s2, fz2, p2⟩ yl
    obtain ⟨hS, ys, hy, fy⟩ := live nw2 p2
    obtain ⟨d, hd, yi⟩ := ml.yields i F2 H2 ys ds v H3 hy fy hlt yl
    have hdr : (it ds).drop i = d :: (it ds).drop (i + 1) := by
      obtain ⟨h1, h2⟩ := List.getElem?_eq_some_iff.mp hd
      rw [← h2, List.drop_eq_getElem_cons h1]
    rw [hdr] at p2
    obtain ⟨F3, nw3, fz3⟩ : ∃ F3, Now τ X.K S2.length φ2 F2 H2 φ2 F3 H3 S2 ∧ Fz X.K F3 H3 v d := by
      rcases yi with ⟨rfl, fz⟩ | ⟨T, us, es, rfl, hT, rfl, rfl, fz⟩
      · exact ⟨F2, .refl nw2.sg, fz⟩
      · have nw := nw2.sg.fresh (o := .tup us) hT
        exact ⟨_, nw, .tup (.inl ⟨.inr rfl, upd_same⟩) (fz.ext nw.ext.sub nw.ext.same)⟩
    have base3 := Now.trans gs nw2 nw3
    obtain ⟨d3, f3, s3⟩ := nw3.priv (by rw [d2]; simp) (by rw [d2]; simp) f2 s2
    have slw : Slots X.K X.mg φ2 F3 H3 S2.length (L2.wipe σ vs) (wipeE ρ vs) := ((sl1.now nw2).now nw3).wiped vs
    refine ⟨φ2, F3, wipeE ρ vs, S2, .d d, nw3.sg, slw, fz3, ?_⟩
    unfold lcLM at p2
    rw [if_pos hS] at p2
    cases q : g (.d d) (wipeE ρ vs) with
    | none => rw [q] at p2; exact p2.elim
    | some ρ3 =>
      simp only [q] at p2 ⊢
      have go : Post τ X.K X.mg Wx S1.length φ1 F1 H1 Q (((noX (t ρ3 S2)).bind fun c S1 => if c = true then (noX (e ρ3 S1)).bind fun v S2 => (fr v S2).bind fun d S3 => if acc.length < sizeLine then lcLM k ds g t e (wipeE ρ vs) ((it ds).drop (i + 1)) (acc ++ [d]) S3 else .bad
        else lcLM k ds g t e (wipeE ρ vs) ((it ds).drop (i + 1)) acc S1).bind fun acc S2 => mkL m acc S2) := p2
      refine fun σ3 sl3 n3 => ⟨wipe_same hw n3, φ2, F3, ρ3, S2, nw3.sg, sl3, ?_⟩
      cases et : t ρ3 S2 with
      | bad => rw [et] at go; exact go.elim
      | ex x S4 => rw [et] at go; exact go.elim
      | ok b S4 =>
        rw [et] at go
        simp only [noX_ok, bind_ok] at go
        intro φ4 F4 H4 nw4 b' eb
        have eb : b' = b := eb
        subst eb
        have base4 := Now.trans gs base3 nw4
        obtain ⟨d4, f4, s4⟩ := nw4.priv (by rw [d3, d2]; simp) (by rw [d3, d2]; simp) f3 s3
        have d4' : H4 Dd = some (.lst xs) := by rw [d4, d3, d2]
        have fz4 : FzAll X.K F4 H4 xs acc := (fz2.ext nw3.ext.sub nw3.ext.same).ext nw4.ext.sub nw4.ext.same
        cases b' with
        | false =>
          simp only [Bool.false_eq_true, if_false] at go ⊢
          exact ⟨φ4, F4, S4, xs, acc, base4, d4', f4, s4, fz4, go⟩
        | true =>
          simp only [if_true] at go ⊢
          refine ⟨φ4, F4, ρ3, S4, nw4.sg, sl3.now nw4, ?_⟩
          cases ee : e ρ3 S4 with
          | bad => rw [ee] at go; exact go.elim
          | ex x S5 => rw [ee] at go; exact go.elim
          | ok v5 S5 =>
            rw [ee] at go
            simp only [noX_ok, bind_ok] at go
            intro φ5 F5 H5 nw5 y ry
            have hne : fr v5 S5 ≠ .bad := fun e => by rw [e] at go; exact go
            obtain ⟨φ6, F6, S6, d6, nw6, fz6, e6⟩ := fr_ok nw5.sg ry hne
            rw [e6] at go
            simp only [noX_ok, bind_ok] at go
            by_cases hl : acc.length < sizeLine
            · rw [if_pos hl] at go
              have nw56 := Now.trans nw4.sg nw5 nw6
              have base6 := Now.trans gs base4 nw56
              obtain ⟨d7, f7, s7⟩ := nw56.priv (by rw [d4']; simp) (by rw [d4']; simp) f4 s4
              rw [d4'] at d7
              have fz7 : FzAll X.K F6 H5 xs acc := fz4.ext nw56.ext.sub nw56.ext.same
              refine ⟨xs, d7, by rw [fz7.len]; exact hl, φ6, F6, S6, xs ++ [y], acc ++ [d6], base6.other hD (.inr ⟨_, d7, plain_lst⟩) dom1 f7 s7, upd_same, f7, s7, ?_, go⟩
              exact (fz7.append (.cons fz6 .nil)).ext (fun _ h => h) fun a h => upd_ne fun e => f7 (by rw [← e]; exact h)
            · rw [if_neg hl] at go; exact go.elim
  · intro H2 ⟨φ2, F2, S2, xs, acc, nw2, d2, f2, s2, fz2, p2⟩
    obtain ⟨hS, _⟩ := live nw2 p2
    rw [show (it ds).drop ds.length = [] by rw [← ml.len ds, List.drop_length]] at p2
    unfold lcLM at p2
    rw [if_pos hS] at p2
    have p2 : Post τ X.K X.mg Wx S1.length φ1 F1 H1 Q (mkL m acc S2) := p2
    cases m with
    | true => exact p2 _ _ _ (nw2.keep hD s2 ⟨f2, xs, d2, fz2⟩) _ ⟨by simp, by simp⟩
    | false => exact p2 _ _ _ (nw2.take hD (by rw [d2]; simp) (by rw [d2]; simp) s2) _ (.lst (.inr rfl) d2 (fz2.ext (fun _ h => .inl h) fun _ _ => rfl))
theorem PostG.loc {m : Bool} {it : List D → List D} {vs : List Nat} {ρ : Env} {Q : VK} {Wx : XW} {n : Nat} {φ : Nat → Addr} {F : Addr → Prop} {H : Hp} {v : Vl} {S1 : Store} (p : Post τ X.K X.mg Wx n φ F H Q (match v with
    | .loc k => match S1[k]? with
      | some (.lst ds) => (lcLM k ds g t e (wipeE ρ vs) (it ds) [] S1).bind fun acc S2 => mkL m acc S2
      | _ => .bad
    | _ => .bad)) : ∃ k ds, v = .loc k ∧ S1[k]? = some (.lst ds) ∧ Post τ X.K X.mg Wx n φ F H Q ((lcLM k ds g t e (wipeE ρ vs) (it ds) [] S1).bind fun acc S2 => mkL m acc S2) := by
  cases v with
  | loc k =>
    cases h : S1[k]? with
    | none => simp only [h] at p; exact p.elim
    | some o =>
      cases o with
      | lst ds => simp only [h] at p; exact ⟨k, ds, rfl, h, p⟩
      | _ => simp only [h] at p; exact p.elim
  | _ => exact p.elim
theorem lcm_readsL {m : Bool} {vs : List Nat} (hw : ∀ i, i ∈ ws → i ∈ vs) {σ : L2.St} {H : Hp} {Q : VK} (h : RE τ X.K X.mg W (eLcM m (fun ds => ds) f g t e vs) σ H Q) :
    tLc (jSeq X.K (RE τ X.K X.mg W f)) (RG τ X.K X.mg g ws) (RT τ X.K X.mg W0 t) (RE τ X.K X.mg W0 e) vs σ H Q := by
  obtain ⟨φ, F, ρ, S, gs, sl, p⟩ := h
  refine ⟨φ, F, ρ, S, gs, sl, PostG.bind gs p fun φ1 F1 H1 S1 v x nw1 r1 p1 => ?_⟩
  obtain ⟨k, ds, rfl, hk, p1⟩ := PostG.loc p1
  obtain ⟨_, rfl⟩ := r1
  obtain ⟨_, xs, hx, _⟩ := nw1.sg.obj k _ hk
  exact ⟨_, rfl, .inl ⟨⟨xs, .inl (.inl hx)⟩, lcm_core hw nw1.sg (sl.now nw1) hk ml_list p1⟩⟩
theorem de_lcM {l : Expr} {k : Nat} (m : Bool) (cc : Cc X W k) (hi : DE τ X W l f) (ok : BlkOk X.N X.env.scope scope own) (hg : ∀ (s : Shared) (H : Hp) (C : Addr) (cl : List (Str × Addr)) (fp : List Addr), DG τ (X.blk s H scope (compEnvC scope cl C X.env) fp) tg g ws)
    (ht : ∀ (s : Shared) (H : Hp) (C : Addr) (cl : List (Str × Addr)) (fp : List Addr), DTs τ (X.blk s H scope (compEnvC scope cl C X.env) fp) W0 ifs t) (he : ∀ (s : Shared) (H : Hp) (C : Addr) (cl : List (Str × Addr)) (fp : List Addr), DE τ (X.blk s H scope (compEnvC scope cl C X.env) fp) W0 elt e)
    (hw : ∀ i, i ∈ ws → i ∈ own.map (·.2) := by decide) (hs : ∀ x, foldedSetIterable l X.env x = pure x := by intro _; rfl) : DE τ X W (.ListComp elt [⟨tg, l, ifs, 0⟩] scope pos) (eLcM m (fun ds => ds) f g t e (own.map (·.2))) :=
  ⟨PE.mono (pe_lc cc.calm cc.nd (pi_seq hi.r) ok (fun s H C cl fp => (hg s H C cl fp).r) (fun s H C cl fp => (ht s H C cl fp).r) (fun s H C cl fp => (he s H C cl fp).r) hs) fun σ H Q h => lcm_readsL hw h⟩
theorem lcm_readsE {m : Bool} {vs : List Nat} (hw : ∀ i, i ∈ ws → i ∈ vs) {σ : L2.St} {H : Hp} {Q : VK} (h : RE τ X.K X.mg W (eLcM m enumD f g t e vs) σ H Q) :
    tLc (jEn X.K (RA τ X.K X.mg W (aCons f aNil))) (RG τ X.K X.mg g ws) (RT τ X.K X.mg W0 t) (RE τ X.K X.mg W0 e) vs σ H Q := by
  obtain ⟨φ, F, ρ, S, gs, sl, p⟩ := h
  refine ⟨φ, F, ρ, S, gs, sl, ?_⟩
  unfold aCons aNil
  unfold eLcM at p
  have q2 : Post τ X.K X.mg (fun c od H' => W c od σ H') S.length φ F H Q (((f ρ S).bind fun v S1 => Res.ok [v] S1).bind fun us S1 => match us with
    | [v] => match v with
      | .loc k => match S1[k]? with
        | some (.lst ds) => (lcLM k ds g t e (wipeE ρ vs) (enumD ds) [] S1).bind fun acc S2 => mkL m acc S2
        | _ => .bad
      | _ => .bad
    | _ => .bad) := by
    cases e : f ρ S <;> (rw [e] at p; exact p)
  refine PostG.bind gs q2 fun φ1 F1 H1 S1 us xs nw1 r1 p1 => ?_
  cases us with
  | nil => exact p1.elim
  | cons v us =>
    cases us with
    | cons _ _ => exact p1.elim
    | nil =>
      obtain ⟨x, rfl, rx⟩ := reps1 r1
      obtain ⟨k, ds, rfl, hk, p1⟩ := PostG.loc p1
      obtain ⟨_, rfl⟩ := rx
      obtain ⟨_, ys, hx, _⟩ := nw1.sg.obj k _ hk
      exact ⟨_, rfl, .inl ⟨⟨ys, .inl (.inl hx)⟩, lcm_core hw nw1.sg (sl.now nw1) hk ml_enum p1⟩⟩
theorem de_lcE {c : Expr} {p cpos tpos : Pos} {elts : List Expr} {kk : Nat} {k : Nat} (m : Bool) (cc : Cc X W k) (hgl : Gl X "enumerate") (hm : X.mg "enumerate" = none) (hi : DA τ X W [c] (aCons f aNil)) (ok : BlkOk X.N X.env.scope scope own) (hg : ∀ (s : Shared) (H : Hp) (C : Addr) (cl : List (Str × Addr)) (fp : List Addr), DG τ (X.blk s H scope (compEnvC scope cl C X.env) fp) (.Tuple elts kk tpos) g ws)
    (ht : ∀ (s : Shared) (H : Hp) (C : Addr) (cl : List (Str × Addr)) (fp : List Addr), DTs τ (X.blk s H scope (compEnvC scope cl C X.env) fp) W0 ifs t) (he : ∀ (s : Shared) (H : Hp) (C : Addr) (cl : List (Str × Addr)) (fp : List Addr), DE τ (X.blk s H scope (compEnvC scope cl C X.env) fp) W0 elt e)
    (hw : ∀ i, i ∈ ws → i ∈ own.map (·.2) := by decide) (hst : starEach [c] X.env = [(false, eval c X.env)] := by rfl) (hs : ∀ x, foldedSetIterable (.Call (.Name "enumerate" p) [c] [] cpos) X.env x = pure x := by intro _; rfl) : DE τ X W (.ListComp elt [⟨.Tuple elts kk tpos, .Call (.Name "enumerate" p) [c] [] cpos, ifs, 0⟩] scope pos) (eLcM m enumD f g t e (own.map (·.2))) :=
  ⟨PE.mono (pe_lc cc.calm cc.nd (pi_enA hgl hm hi.r hst) ok (fun s H C cl fp => (hg s H C cl fp).r) (fun s H C cl fp => (ht s H C cl fp).r) (fun s H C cl fp => (he s H C cl fp).r) hs) fun σ H Q h => lcm_readsE hw h⟩
end
def IterK (k : Bool) (h : Heap) (it a : Addr) (i : Nat) : Prop := if k = true then h.IsListIter it a i else h.IsTupleIter it a i
def SeqK (k : Bool) (h : Heap) (a : Addr) (xs : Array Value) : Prop := if k = true then h.IsList a xs else h.IsTuple a xs
def SqK (K : PySem.W.Frag) (k : Bool) (H : Hp) (a : Addr) (xs : List V) : Prop := if k = true then SqL K H a xs else SqT K H a xs
theorem IterK.obj {k : Bool} {h : Heap} {it a : Addr} {i : Nat} (q : IterK k h it a i) : ∃ o, h.get? it = some o ∧ ∀ v, o.data ≠ .cell v := by
  cases k with
  | true => obtain ⟨o, e, _, d⟩ := (q : h.IsListIter it a i); exact ⟨o, e, fun v q => by rw [d] at q; cases q⟩
  | false => obtain ⟨o, e, _, d⟩ := (q : h.IsTupleIter it a i); exact ⟨o, e, fun v q => by rw [d] at q; cases q⟩
theorem IterK.at {k : Bool} {h h' : Heap} {it a : Addr} {i : Nat} (q : IterK k h it a i) (f : ∀ o, h.get? it = some o → h'.get? it = some o) : IterK k h' it a i := by
  cases k with
  | true => exact (Heap.IsListIter.at (h := h) q f : h'.IsListIter it a i)
  | false => exact (Heap.IsTupleIter.at (h := h) q f : h'.IsTupleIter it a i)
theorem drawsK {prog : Program} {w : World} {A : Around} (k : Bool) (hh : A.handled = none) (it l : Addr) (hne : l ≠ it) (items : Array Value) :
    Draws prog w A it [it, l] items.size (fun i v => items[i]? = some v) (fun i h => IterK k h it l i ∧ SeqK k h l items) := by
  cases k with
  | true => exact Draws.list hh it l hne items
  | false => exact Draws.tuple hh it l hne items
theorem Inv.sqK {X : Cx} {pins : List (Addr × Obj)} {σ : L2.St} {H : Hp} {s : Shared} (I : Inv X pins σ H s) {k : Bool} {a : Addr} {xs : List V} (q : SqK X.K k H a xs) : ∃ its : List Value, Vals xs its ∧ SeqK k s.heap a its.toArray := by
  cases k with
  | true => obtain ⟨its, rv, p, _⟩ := I.list (show SqL X.K H a xs from q); exact ⟨its, rv, p.isList⟩
  | false => obtain ⟨its, rv, p, _⟩ := I.tuple (show SqT X.K H a xs from q); exact ⟨its, rv, p⟩
theorem Inv.sqK_inj {X : Cx} {pins : List (Addr × Obj)} {σ : L2.St} {H : Hp} {s : Shared} (I : Inv X pins σ H s) {k : Bool} {a : Addr} {xs ys : List V} (q : SqK X.K k H a xs) (q2 : SqK X.K k H a ys) : xs = ys := by
  cases k with
  | true => exact I.list_inj (show SqL X.K H a xs from q) q2
  | false => exact I.tuple_inj (show SqT X.K H a xs from q) q2
def ItzM (K : PySem.W.Frag) (k1 k2 : Bool) (a b : Addr) : It :=
  ⟨fun i H => ∃ (xs ys : List V) (x y : V), SqK K k1 H a xs ∧ SqK K k2 H b ys ∧ xs[i]? = some x ∧ ys[i]? = some y,
    fun i H v H' => ∃ T x y, v = .ref T ∧ H T = none ∧ H' = upd H T (.tup [x, y]) ∧ (∀ xs, SqK K k1 H a xs → xs[i]? = some x) ∧ ∀ ys, SqK K k2 H b ys → ys[i]? = some y,
    fun i H => ∃ xs ys : List V, SqK K k1 H a xs ∧ SqK K k2 H b ys ∧ i ≤ xs.length ∧ i ≤ ys.length ∧ (i = xs.length ∨ i = ys.length)⟩
theorem zipSep {a b z TI TO i1 i2 : Addr} (D : ZipApart z TI TO i1 i2 a b) : ZipSep2 z TI TO i1 i2 [i1, a] [i2, b] := by
  refine ⟨D.TIz, D.TOz, D.TITO, D.TIi1, by simp, ?_, ?_, D.TIi2, by simp, ?_, ?_, ?_, ?_⟩
  · simp [Ne.symm D.i1z, Ne.symm D.l1z]
  · simp [D.TOi1, Ne.symm D.l1TO]
  · simp [Ne.symm D.i2z, Ne.symm D.l2z]
  · simp [D.TOi2, Ne.symm D.l2TO]
  · simp [D.i12, Ne.symm D.l2i1]
  · simp [Ne.symm D.i12, Ne.symm D.l1i2]
theorem turn_zipM {P : Program} {w : World} {K : PySem.W.Frag} {elts : List Expr} {kk : Nat} {tpos : Pos} {k1 k2 : Bool} {a b z TI TO i1 i2 : Addr} (D : ZipApart z TI TO i1 i2 a b) :
    Turn P w K (.Tuple elts kk tpos) (ItzM K k1 k2 a b) [z, TI, TO, i1, i2] z (fun i h => IsZip h z TI TO .none ∧ IsPair h TI (.ref i1) (.ref i2) ∧ (∃ x y, IsPair h TO x y) ∧ IterK k1 h i1 a i ∧ IterK k2 h i2 b i) where
  mem := by simp
  obj := fun i h st c hc => by
    obtain ⟨hz, hTI, ⟨x, y, hTO⟩, h1, h2⟩ := st
    have e' : c = z ∨ c = TI ∨ c = TO ∨ c = i1 ∨ c = i2 := by simpa using hc
    rcases e' with q | q | q | q | q
    · rw [q]; exact ⟨_, hz, fun v q => nomatch q⟩
    · rw [q]; exact ⟨_, hTI, fun v q => nomatch q⟩
    · rw [q]; exact ⟨_, hTO, fun v q => nomatch q⟩
    · rw [q]; exact h1.obj
    · rw [q]; exact h2.obj
  keep := fun i h h' st k => by
    obtain ⟨hz, hTI, ⟨x, y, hTO⟩, h1, h2⟩ := st
    exact ⟨k z (by simp) _ hz, k TI (by simp) _ hTI, ⟨x, y, k TO (by simp) _ hTO⟩, h1.at fun o q => k i1 (by simp) o q, h2.at fun o q => k i2 (by simp) o q⟩
  item := by
    intro X hP hw hK hc i pins s σ H E I hf st hg
    subst hP hw hK
    obtain ⟨hz, hTI, ⟨x0, y0, hTO⟩, h1, h2⟩ := st
    obtain ⟨xs, ys, x, y, hqx, hqy, hx, hy⟩ := hg
    obtain ⟨its, rv, p⟩ := Inv.sqK I hqx
    obtain ⟨its2, rv2, p2⟩ := Inv.sqK I hqy
    obtain ⟨u, hu, ru⟩ := rv.get hx
    obtain ⟨u2, hu2, ru2⟩ := rv2.get hy
    have hzl : z < s.heap.objs.size := Heap.lt_size hz
    have hh : X.A.in1.handled = none := I.ok.hd hc
    have lt1 : i < its.toArray.size := by have := (List.getElem?_eq_some_iff.mp hu).1; simpa using this
    have lt2 : i < its2.toArray.size := by have := (List.getElem?_eq_some_iff.mp hu2).1; simpa using this
    refine wpAny_pyNext_zipD2_item (zipSep D) (drawsK (A := X.A.in1) k1 hh i1 a D.l1i1 its.toArray) (drawsK (A := X.A.in1) k2 hh i2 b D.l2i2 its2.toArray) hz hTI hTO ⟨h1, p⟩ ⟨h2, p2⟩ lt1 lt2 fun v1 v2 h' tk y1 y2 z' TO' h1' h2' hT hsz hk => ?_
    have e1 : v1 = u := by rw [show its.toArray[i]? = some u by simpa using hu] at y1; cases y1; rfl
    have e2 : v2 = u2 := by rw [show its2.toArray[i]? = some u2 by simpa using hu2] at y2; cases y2; rfl
    subst e1 e2
    refine ⟨_, rfl, wpAny_letOwnedTupleGo_zip (s := { s with heap := h', toks := tk }) z' fun h'' z'' sb => ?_⟩
    have hT2 : h''.get? s.heap.objs.size = some { cls := .type "tuple", data := .seq #[v1, v2] } := (sb.2 _ (Nat.ne_of_gt hzl)).trans hT
    have new : ObjOk X.prog X.w (upd H s.heap.objs.size (.tup [x, y])) h'' s.heap.objs.size (.tup [x, y]) :=
      ⟨by show 2 ≤ sizeLine; decide, [v1, v2], .cons ru (.cons ru2 .nil), ⟨_, hT2, rfl, _, rfl⟩⟩
    have I1 : Inv X pins σ (upd H s.heap.objs.size (.tup [x, y])) { s with heap := h'', toks := tk } :=
      I.turnedNew (t' := tk) (ch := [z, TI, TO, i1, i2]) (fun c o hb q => (sb.2 c (fun q' => hb (by simp [q']))).trans (hk c o (fun q' => hb (by simp [q'])) (fun q' => hb (by simp [q'])) (fun q' => hb (by simp [q'])) (fun q' => hb (by simp [q'])) q)) hf (Nat.le_refl _) new
    refine ⟨.ref s.heap.objs.size, _, I1, rfl, ⟨_, x, y, rfl, I.hok.fresh (Nat.le_refl _), rfl, fun l hl => by rw [Inv.sqK_inj I hl hqx]; exact hx, fun l hl => by rw [Inv.sqK_inj I hl hqy]; exact hy⟩, ⟨z'', ?_, ⟨v1, v2, ?_⟩, ?_, ?_⟩, fun c hcm => ?_⟩
    · exact (sb.2 _ D.TIz).trans (hk _ _ D.TIz D.TITO D.TIi1 D.TIi2 hTI)
    · exact (sb.2 _ D.TOz).trans TO'
    · exact h1'.1.at fun o q => (sb.2 _ D.i1z).trans q
    · exact h2'.1.at fun o q => (sb.2 _ D.i2z).trans q
    · have hlt : c < s.heap.objs.size := by
        have e' : c = z ∨ c = TI ∨ c = TO ∨ c = i1 ∨ c = i2 := by simpa using hcm
        rcases e' with q | q | q | q | q
        · rw [q]; exact hzl
        · rw [q]; exact Heap.lt_size hTI
        · rw [q]; exact Heap.lt_size hTO
        · rw [q]; obtain ⟨_, e1, _⟩ := h1.obj; exact Heap.lt_size e1
        · rw [q]; obtain ⟨_, e2, _⟩ := h2.obj; exact Heap.lt_size e2
      rw [upd_ne (Nat.ne_of_lt hlt)]
      exact (hf c hcm).1
  done := by
    intro X hP hw hK hc i pins s σ H E I hf st hg
    subst hP hw hK
    obtain ⟨hz, hTI, ⟨x0, y0, hTO⟩, h1, h2⟩ := st
    obtain ⟨xs, ys, hqx, hqy, le1, le2, hend⟩ := hg
    obtain ⟨its, rv, p⟩ := Inv.sqK I hqx
    obtain ⟨its2, rv2, p2⟩ := Inv.sqK I hqy
    have hh : X.A.in1.handled = none := I.ok.hd hc
    have l1 := rv.length
    have l2 := rv2.length
    exact wpAny_pyNext_zipD2_end (zipSep D) (drawsK (A := X.A.in1) k1 hh i1 a D.l1i1 its.toArray) (drawsK (A := X.A.in1) k2 hh i2 b D.l2i2 its2.toArray) hz hTI hTO ⟨h1, p⟩ ⟨h2, p2⟩ (by simp; omega) (by simp; omega) (by simp; omega) fun h' tk hk => ⟨rfl, I.turnedL (t' := tk) (ch := [z, TI, TO, i1, i2]) (fun c o hb q =>
      hk c o (fun q' => hb (by simp [q'])) (fun q' => hb (by simp [q'])) (fun q' => hb (by simp [q'])) (fun q' => hb (by simp [q'])) q) hf⟩
  self := fun A i s Q E st h => wpAny_pyIter_zip st.1 h
abbrev itO (k : Bool) (l : Addr) : Obj := if k = true then { cls := .type "list_iterator", data := .fields #[.ref l, .int 0 0] } else { cls := .type "tuple_iterator", data := .fields #[.ref l, .int 0 0] }
abbrev zM1 (h : Heap) (k1 : Bool) (l1 : Addr) : Heap := h.push (itO k1 l1)
abbrev zM2 (h : Heap) (k1 k2 : Bool) (l1 l2 : Addr) : Heap := (zM1 h k1 l1).push (itO k2 l2)
abbrev zM3 (h : Heap) (k1 k2 : Bool) (l1 l2 : Addr) : Heap := (zM2 h k1 k2 l1 l2).push { cls := .type "tuple", data := .seq #[.ref h.objs.size, .ref (zM1 h k1 l1).objs.size] }
abbrev zM4 (h : Heap) (k1 k2 : Bool) (l1 l2 : Addr) : Heap := (zM3 h k1 k2 l1 l2).push { cls := .type "tuple", data := .seq #[.none, .none] }
abbrev zM5 (h : Heap) (k1 k2 : Bool) (l1 l2 : Addr) : Heap := (zM4 h k1 k2 l1 l2).push { cls := .type "zip", data := .fields #[.none, .bool false, .bool false, .ref (zM2 h k1 k2 l1 l2).objs.size, .ref (zM3 h k1 k2 l1 l2).objs.size] }
theorem meets_zLT (l1 l2 : Addr) (xs ys : Array Value) :
    Meets (Builtin.«zip.__new__» ⟨[.type "zip", .ref l1, .ref l2], []⟩) (fun _ R s => s.heap.IsList l1 xs ∧ s.heap.IsTuple l2 ys ∧
      R (.ok (.ret (.ref (zM4 s.heap true false l1 l2).objs.size))) { s with heap := zM5 s.heap true false l1 l2 }) :=
  .of_wp fun prog w A R s h => by
    obtain ⟨hp, g, d, tk, os⟩ := s; obtain ⟨hl1, hl2, h⟩ := h
    have hsub := sub_zip
    have hL1 : Heap.IsList (Shared.heap ⟨hp, g, d, tk, os⟩) l1 xs := hl1
    have hL2 : Heap.IsTuple (Shared.heap ⟨hp.push { cls := .type "list_iterator", data := .fields #[.ref l1, .int 0 0] }, g, d, tk, os⟩) l2 ys := Heap.IsTuple.push hl2 _
    wp_walk using wpAny_pyIter_list hL1, wpAny_pyIter_tuple hL2
    exact ⟨_, rfl, h⟩
theorem meets_zTL (l1 l2 : Addr) (xs ys : Array Value) :
    Meets (Builtin.«zip.__new__» ⟨[.type "zip", .ref l1, .ref l2], []⟩) (fun _ R s => s.heap.IsTuple l1 xs ∧ s.heap.IsList l2 ys ∧
      R (.ok (.ret (.ref (zM4 s.heap false true l1 l2).objs.size))) { s with heap := zM5 s.heap false true l1 l2 }) :=
  .of_wp fun prog w A R s h => by
    obtain ⟨hp, g, d, tk, os⟩ := s; obtain ⟨hl1, hl2, h⟩ := h
    have hsub := sub_zip
    have hL1 : Heap.IsTuple (Shared.heap ⟨hp, g, d, tk, os⟩) l1 xs := hl1
    have hL2 : Heap.IsList (Shared.heap ⟨hp.push { cls := .type "tuple_iterator", data := .fields #[.ref l1, .int 0 0] }, g, d, tk, os⟩) l2 ys := Heap.IsList.push hl2 _
    wp_walk using wpAny_pyIter_tuple hL1, wpAny_pyIter_list hL2
    exact ⟨_, rfl, h⟩
section
variable {prog : Program} {w : World} {A : Around} {E : Value → Shared → Prop} {s : Shared}
theorem itO_iter {k : Bool} {h : Heap} {it l : Addr} (g : h.get? it = some (itO k l)) : IterK k h it l 0 := by
  cases k with
  | true => exact ⟨_, g, rfl, rfl⟩
  | false => exact ⟨_, g, rfl, rfl⟩
theorem itO_free (k : Bool) (l : Addr) : (itO k l).isFreed = false := by cases k <;> rfl
theorem call_zM {k1 k2 : Bool} {l1 l2 : Addr} {xs ys : Array Value} {Q : Value → Shared → Prop} (hm : Meets (Builtin.«zip.__new__» ⟨[.type "zip", .ref l1, .ref l2], []⟩) (fun _ R s => SeqK k1 s.heap l1 xs ∧ SeqK k2 s.heap l2 ys ∧
      R (.ok (.ret (.ref (zM4 s.heap k1 k2 l1 l2).objs.size))) { s with heap := zM5 s.heap k1 k2 l1 l2 })) (hl1 : SeqK k1 s.heap l1 xs) (hl2 : SeqK k2 s.heap l2 ys)
    (h : ∀ h', IsZip h' (s.heap.objs.size + 4) (s.heap.objs.size + 2) (s.heap.objs.size + 3) .none → IsPair h' (s.heap.objs.size + 2) (.ref s.heap.objs.size) (.ref (s.heap.objs.size + 1)) →
      IsPair h' (s.heap.objs.size + 3) .none .none → IterK k1 h' s.heap.objs.size l1 0 → IterK k2 h' (s.heap.objs.size + 1) l2 0 → h'.objs.size = s.heap.objs.size + 5 →
      (∀ c o, s.heap.get? c = some o → h'.get? c = some o) → Q (.ref (s.heap.objs.size + 4)) { s with heap := h' }) :
    wpAny (model prog w) A (call (.type "zip") [.ref l1, .ref l2]) Q E s := by
  refine callType_new F.called_zip (by decide) (F.typeCall_zip_2 _ _) (F.newCall_zip_2 _ _) (fun obj => F.args_object_init_3 obj _ _) F.entry_zip_new
    hm ⟨hl1, hl2, ?_⟩
  have z1 : (zM1 s.heap k1 l1).objs.size = s.heap.objs.size + 1 := Heap.size_push ..
  have z2 : (zM2 s.heap k1 k2 l1 l2).objs.size = s.heap.objs.size + 2 := by rw [Heap.size_push, z1]
  have z3 : (zM3 s.heap k1 k2 l1 l2).objs.size = s.heap.objs.size + 3 := by rw [Heap.size_push, z2]
  have z4 : (zM4 s.heap k1 k2 l1 l2).objs.size = s.heap.objs.size + 4 := by rw [Heap.size_push, z3]
  have z5 : (zM5 s.heap k1 k2 l1 l2).objs.size = s.heap.objs.size + 5 := by rw [Heap.size_push, z4]
  have g5 : (zM5 s.heap k1 k2 l1 l2).get? (zM4 s.heap k1 k2 l1 l2).objs.size = some _ := Heap.get?_push_size _ rfl
  have g4 : (zM5 s.heap k1 k2 l1 l2).get? (zM3 s.heap k1 k2 l1 l2).objs.size = some _ := Heap.get?_push_of_some _ (Heap.get?_push_size _ rfl)
  have g3 : (zM5 s.heap k1 k2 l1 l2).get? (zM2 s.heap k1 k2 l1 l2).objs.size = some _ := Heap.get?_push_of_some _ (Heap.get?_push_of_some _ (Heap.get?_push_size _ rfl))
  have g2 : (zM5 s.heap k1 k2 l1 l2).get? (zM1 s.heap k1 l1).objs.size = some _ := Heap.get?_push_of_some _ (Heap.get?_push_of_some _ (Heap.get?_push_of_some _ (Heap.get?_push_size _ (itO_free _ _))))
  have g1 : (zM5 s.heap k1 k2 l1 l2).get? s.heap.objs.size = some _ := Heap.get?_push_of_some _ (Heap.get?_push_of_some _ (Heap.get?_push_of_some _ (Heap.get?_push_of_some _ (Heap.get?_push_size _ (itO_free _ _)))))
  show _ ∧ _
  rw [z2, z3, z4] at g5
  rw [z1, z2] at g3
  rw [z3] at g4
  rw [z1] at g2
  rw [z4]
  exact ⟨⟨_, g5, rfl⟩, h _ g5 g3 g4 (itO_iter g1) (itO_iter g2) z5 fun c o x =>
    Heap.get?_push_of_some _ (Heap.get?_push_of_some _ (Heap.get?_push_of_some _ (Heap.get?_push_of_some _ (Heap.get?_push_of_some _ x))))⟩
end
def jZipX (K : PySem.W.Frag) (ta : TA) : TI := fun σ H R => ta σ H fun vs H1 => ∃ a b xs ys, vs = [.ref a, .ref b] ∧ ((SqL K H1 a xs ∧ SqL K H1 b ys ∧ R (Itz K a b) H1) ∨ (SqT K H1 a xs ∧ SqT K H1 b ys ∧ R (RZ.ItzT K a b) H1) ∨ (SqL K H1 a xs ∧ SqT K H1 b ys ∧ R (ItzM K true false a b) H1) ∨ (SqT K H1 a xs ∧ SqL K H1 b ys ∧ R (ItzM K false true a b) H1))
theorem pi_zipX {X : Cx} {e e2 : Expr} {ta : TA} {p pos tpos : Pos} {elts : List Expr} {kk : Nat} (hg : Gl X "zip") (hm : X.mg "zip" = none) (ha : PA X [e, e2] ta)
    (hs : starEach [e, e2] X.env = (false, eval e X.env) :: starEach [e2] X.env := by rfl) (hpl : (backTo pos (starEach [e2] X.env)).any (·.1) = false := by rfl) :
    PI X (.Tuple elts kk tpos) (.Call (.Name "zip" p) [e, e2] [] pos) (jZipX X.K ta) := by
  refine ⟨fun pins s σ H R I h => ?_⟩
  refine Call_ (ld_blt I hg hm PyProof.Rows.boot_zip (PyProof.Rows.callWith_type1 (thn (ha.run pos pins s σ H _ I h) fun us s1 ⟨vs, H1, I1, r1, q1⟩ => ?_) hs hpl))
  obtain ⟨a, b, xs, ys, ex, q1⟩ := q1
  subst ex
  cases r1 with
  | cons r rr =>
    cases rr with
    | cons r' rr =>
      cases rr
      cases r
      cases r'
      have fresh5 : ∀ c, c ∈ [s1.heap.objs.size + 4, s1.heap.objs.size + 2, s1.heap.objs.size + 3, s1.heap.objs.size, s1.heap.objs.size + 1] → FpOk X pins H1 c := fun c hcm => by
        have e' : c = s1.heap.objs.size + 4 ∨ c = s1.heap.objs.size + 2 ∨ c = s1.heap.objs.size + 3 ∨ c = s1.heap.objs.size ∨ c = s1.heap.objs.size + 1 := by simpa using hcm
        have hle : s1.heap.objs.size ≤ c := by
          rcases e' with z | z | z | z | z
          · rw [z]; exact Nat.le_add_right _ _
          · rw [z]; exact Nat.le_add_right _ _
          · rw [z]; exact Nat.le_add_right _ _
          · rw [z]; exact Nat.le_refl _
          · rw [z]; exact Nat.le_add_right _ _
        exact I1.fpOk hle (I1.hok.fresh hle)
      rcases q1 with ⟨hqx, hqy, q⟩ | ⟨hqx, hqy, q⟩ | ⟨hqx, hqy, q⟩ | ⟨hqx, hqy, q⟩
      · obtain ⟨its, rv, p1, _⟩ := I1.list hqx
        obtain ⟨its2, rv2, p2, _⟩ := I1.list hqy
        refine call_zip_2 p1.isList p2.isList fun h' hz hTI hTO h1 h2 hsz hk => wpAny_pyIter_zip hz ?_
        have I2 : Inv X pins σ H1 { s1 with heap := h' } := I1.kept (t' := s1.toks) hk
        exact ⟨s1.heap.objs.size + 4, [s1.heap.objs.size + 4, s1.heap.objs.size + 2, s1.heap.objs.size + 3, s1.heap.objs.size, s1.heap.objs.size + 1], _, _, H1, rfl, I2, turn_zip (PySem.W.ktu_apart s1.heap.objs.size a b p1.lt p2.lt), ⟨hz, hTI, ⟨_, _, hTO⟩, h1, h2⟩, fresh5, q⟩
      · obtain ⟨its, rv, p1, _⟩ := I1.tuple hqx
        obtain ⟨its2, rv2, p2, _⟩ := I1.tuple hqy
        obtain ⟨o1, ho1, _⟩ := id p1
        obtain ⟨o2, ho2, _⟩ := id p2
        refine RZ.call_zipT (show s1.heap.IsTuple a its.toArray from p1) (show s1.heap.IsTuple b its2.toArray from p2) fun h' hz hTI hTO h1 h2 hsz hk => wpAny_pyIter_zip hz ?_
        have I2 : Inv X pins σ H1 { s1 with heap := h' } := I1.kept (t' := s1.toks) hk
        exact ⟨s1.heap.objs.size + 4, [s1.heap.objs.size + 4, s1.heap.objs.size + 2, s1.heap.objs.size + 3, s1.heap.objs.size, s1.heap.objs.size + 1], _, _, H1, rfl, I2, RZ.turn_zipT (PySem.W.ktu_apart s1.heap.objs.size a b (Heap.lt_size ho1) (Heap.lt_size ho2)), ⟨hz, hTI, ⟨_, _, hTO⟩, h1, h2⟩, fresh5, q⟩
      · obtain ⟨its, rv, p1, _⟩ := I1.list hqx
        obtain ⟨its2, rv2, p2, _⟩ := I1.tuple hqy
        obtain ⟨o2, ho2, _⟩ := id p2
        refine call_zM (k1 := true) (k2 := false) (meets_zLT a b its.toArray its2.toArray) p1.isList (show s1.heap.IsTuple b its2.toArray from p2) fun h' hz hTI hTO h1 h2 hsz hk => wpAny_pyIter_zip hz ?_
        have I2 : Inv X pins σ H1 { s1 with heap := h' } := I1.kept (t' := s1.toks) hk
        exact ⟨s1.heap.objs.size + 4, [s1.heap.objs.size + 4, s1.heap.objs.size + 2, s1.heap.objs.size + 3, s1.heap.objs.size, s1.heap.objs.size + 1], _, _, H1, rfl, I2, turn_zipM (PySem.W.ktu_apart s1.heap.objs.size a b p1.lt (Heap.lt_size ho2)), ⟨hz, hTI, ⟨_, _, hTO⟩, h1, h2⟩, fresh5, q⟩
      · obtain ⟨its, rv, p1, _⟩ := I1.tuple hqx
        obtain ⟨its2, rv2, p2, _⟩ := I1.list hqy
        obtain ⟨o1, ho1, _⟩ := id p1
        refine call_zM (k1 := false) (k2 := true) (meets_zTL a b its.toArray its2.toArray) (show s1.heap.IsTuple a its.toArray from p1) p2.isList fun h' hz hTI hTO h1 h2 hsz hk => wpAny_pyIter_zip hz ?_
        have I2 : Inv X pins σ H1 { s1 with heap := h' } := I1.kept (t' := s1.toks) hk
        exact ⟨s1.heap.objs.size + 4, [s1.heap.objs.size + 4, s1.heap.objs.size + 2, s1.heap.objs.size + 3, s1.heap.objs.size, s1.heap.objs.size + 1], _, _, H1, rfl, I2, turn_zipM (PySem.W.ktu_apart s1.heap.objs.size a b (Heap.lt_size ho1) p2.lt), ⟨hz, hTI, ⟨_, _, hTO⟩, h1, h2⟩, fresh5, q⟩
def iZipX (f : Av) : Iv := fun ρ S => (f ρ S).bind fun vs S1 => (frs vs S1).bind fun ds S2 => match ds with
  | [.list xs, .list ys] => .ok (zipD xs ys) S2
  | [.tuple xs, .tuple ys] => .ok (zipD xs ys) S2
  | [.list xs, .tuple ys] => .ok (zipD xs ys) S2
  | [.tuple xs, .list ys] => .ok (zipD xs ys) S2
  | _ => .bad
section
variable {K : PySem.W.Frag} {F : Addr → Prop} {H : Hp} {a b : Addr} {xs ys : List V} {ds es : List D}
theorem yl_zipM {k1 k2 : Bool} (at_ : ∀ H', Agree F H H' → SqK K k1 H' a xs) (h2 : FzAll K F H xs ds) (bt_ : ∀ H', Agree F H H' → SqK K k2 H' b ys) (h4 : FzAll K F H ys es) : Yl K F H (ItzM K k1 k2 a b) (zipD ds es) := by
  refine ⟨fun i H' hi g => ?_, fun H' g => ⟨xs, ys, at_ H' g, bt_ H' g, by have := h2.len; have := h4.len; rw [zipD_len]; omega, by have := h2.len; have := h4.len; rw [zipD_len]; omega, by have := h2.len; have := h4.len; rw [zipD_len]; omega⟩, fun i H' v H'' hi g y => ?_⟩ <;> rw [zipD_len] at hi
  · obtain ⟨v, hv, _⟩ := h2.get (List.getElem?_eq_getElem (by omega : i < ds.length))
    obtain ⟨u, hu, _⟩ := h4.get (List.getElem?_eq_getElem (by omega : i < es.length))
    exact ⟨xs, ys, v, u, at_ H' g, bt_ H' g, hv, hu⟩
  · obtain ⟨v', hv, fv⟩ := h2.get (List.getElem?_eq_getElem (by omega : i < ds.length))
    obtain ⟨u', hu, fu⟩ := h4.get (List.getElem?_eq_getElem (by omega : i < es.length))
    obtain ⟨T, x, y, e1, e2, e3, e4, e5⟩ := y
    have e := e4 xs (at_ H' g)
    rw [hv] at e
    cases e
    have e := e5 ys (bt_ H' g)
    rw [hu] at e
    cases e
    exact ⟨_, zipD_get (by omega) (by omega), .inr ⟨T, _, _, e1, e2, e3, rfl, .cons fv (.cons fu .nil)⟩⟩
end
section
variable {X : Cx} {W : WX} {c d : Expr} {p pos tpos : Pos} {elts : List Expr} {kk : Nat}
theorem di_zipX {fs : Av} (hg : Gl X "zip") (hm : X.mg "zip" = none) (h : DA τ X W [c, d] fs) (hs : starEach [c, d] X.env = (false, eval c X.env) :: starEach [d] X.env := by rfl) (hpl : (backTo pos (starEach [d] X.env)).any (·.1) = false := by rfl) : DI τ X W (.Tuple elts kk tpos) (.Call (.Name "zip" p) [c, d] [] pos) (iZipX fs) :=
  ⟨PI.mono (pi_zipX hg hm h.r hs hpl) fun σ H R ⟨φ, F, ρ, S, g, sl, q⟩ => by
    refine ⟨φ, F, ρ, S, g, sl, PostG.bind g q fun φ1 F1 H1 S1 vs xs nw1 r1 p1 => ?_⟩
    obtain ⟨φ2, F2, S2, ds, nw2, f2, p2⟩ := frs_ok (k := fun ds S2 => (match ds with
      | [.list xs, .list ys] => .ok (zipD xs ys) S2
      | [.tuple xs, .tuple ys] => .ok (zipD xs ys) S2
      | [.list xs, .tuple ys] => .ok (zipD xs ys) S2
      | [.tuple xs, .list ys] => .ok (zipD xs ys) S2
      | _ => .bad : Res (List D))) nw1.sg r1 p1
    have p3 := PostG.start nw1.sg nw2 p2
    split at p3
    · cases f2 with
      | cons fa t => cases t with
        | cons fb t => cases t with
          | nil => cases fa with
            | lst h1 h2 h3 => cases fb with
              | lst h4 h5 h6 => exact ⟨_, _, _, _, rfl, .inl ⟨.inl (.inl h2), .inl (.inl h5), p3 _ _ _ (.refl nw2.sg) _ (yl_zipL h1 h2 h3 h4 h5 h6)⟩⟩
    · cases f2 with
      | cons fa t => cases t with
        | cons fb t => cases t with
          | nil => cases fa with
            | tup h1 h2 => cases fb with
              | tup h4 h5 => exact ⟨_, _, _, _, rfl, .inr (.inl ⟨h1.sq, h4.sq, p3 _ _ _ (.refl nw2.sg) _ (yl_zipT h1 h2 h4 h5)⟩)⟩
    · cases f2 with
      | cons fa t => cases t with
        | cons fb t => cases t with
          | nil => cases fa with
            | lst h1 h2 h3 => cases fb with
              | tup h4 h5 => exact ⟨_, _, _, _, rfl, .inr (.inr (.inl ⟨.inl (.inl h2), h4.sq, p3 _ _ _ (.refl nw2.sg) _ (yl_zipM (fun H' g => .inl (.inl ((g _ h1).trans h2))) h3 (fun H' g => (h4.ext (fun _ h => h) g).sq) h5)⟩))⟩
    · cases f2 with
      | cons fa t => cases t with
        | cons fb t => cases t with
          | nil => cases fa with
            | tup h4 h5 => cases fb with
              | lst h1 h2 h3 => exact ⟨_, _, _, _, rfl, .inr (.inr (.inr ⟨h4.sq, .inl (.inl h2), p3 _ _ _ (.refl nw2.sg) _ (yl_zipM (fun H' g => (h4.ext (fun _ h => h) g).sq) h5 (fun H' g => .inl (.inl ((g _ h1).trans h2))) h3)⟩))⟩
    · exact p3.elim⟩
end
theorem mod_l {x y m : Int} (h : 0 < m) (h2 : m < 18446744073709551616) : mulOk (x % m) y = true := mulOk_l (by
  have a := Int.emod_nonneg x (by omega : m ≠ 0)
  have b := Int.emod_lt_of_pos x h
  omega)
theorem mod_r {x y m : Int} (h : 0 < m) (h2 : m < 18446744073709551616) : mulOk y (x % m) = true := mulOk_r (by
  have a := Int.emod_nonneg x (by omega : m ≠ 0)
  have b := Int.emod_lt_of_pos x h
  omega)
theorem num_l {x y : Int} (h : x.natAbs < 18446744073709551616) : mulOk x y = true := mulOk_l h
theorem num_r {x y : Int} (h : x.natAbs < 18446744073709551616) : mulOk y x = true := mulOk_r h
def isI : D → Bool
  | .int _ => true
  | _ => false
def inI (lo hi : Int) : D → Bool
  | .int i => decide (lo ≤ i ∧ i ≤ hi)
  | _ => false
theorem inI_not {lo hi : Int} {d : D} (h : isI d = false) : inI lo hi d = false := by
  cases d <;> first | rfl | cases h
theorem all_bools (bs : List Bool) (S : Store) : fAll [.d (.list (bs.map PyData.bool))] S = .ok (.d (.bool (bs.all id))) S := by
  have h1 : PyData.plainAll (bs.map PyData.bool) = true := by induction bs with
    | nil => rfl
    | cons n bs ih => simp [PyData.plainAll, PyData.plain, ih]
  have h2 : PyData.depthAll (bs.map PyData.bool) = 0 := by induction bs with
    | nil => rfl
    | cons n bs ih => simp [PyData.depthAll, PyData.depth, ih (by simpa [PyData.plainAll, PyData.plain] using h1)]
  have h3 : (bs.map PyData.bool).all fitsB = true := by simp [fitsB]
  have h4 : (bs.map PyData.bool).all PyData.truthy = bs.all id := by
    rw [List.all_map]
    congr 1
  simp [fAll, fSeq, seqOf, seqOk, h1, h2, h3, h4]
theorem lcL_flag {tg : Tg} {f : Ev} {ρ : Env} {S : Store} (p : D → Bool) (xs : List D) (h : ∀ x ∈ xs, ∃ ρ1, tg (.d x) ρ = some ρ1 ∧ f ρ1 S = .ok (.d (.bool (p x))) S) (hl : xs.length ≤ 1000) : lcL tg tYesD f ρ xs [] S = .ok ((xs.map p).map PyData.bool) S := by
  have e := lcL_all (tg := tg) (f := f) (ρ := ρ) (fun x => .bool (p x)) (S := S) xs [] h (by simpa using hl)
  rw [List.nil_append] at e
  rw [e]
  simp
theorem cut_tail (ds : List D) : cutD ds (some 1) none = ds.tail := by
  unfold cutD
  rw [HT.sIx_none, show HT.sIx ds.length 0 (some 1) = min 1 ds.length from HT.sIx_nat _ _ 1]
  cases ds with
  | nil => rfl
  | cons d ds => simp [Nat.min_eq_left]
theorem cut_head (ds : List D) : cutD ds none (some 1) = ds.take 1 := by
  unfold cutD
  rw [HT.sIx_none, show HT.sIx ds.length ds.length (some 1) = min 1 ds.length from HT.sIx_nat _ _ 1]
  cases ds with
  | nil => rfl
  | cons d ds => simp [Nat.min_eq_left]
theorem lcL_fm {α : Type} {tg : Tg} {t : Tv} {f : Ev} {ρ : Env} {S : Store} (dt : α → D) (p : α → Bool) (g : α → D) (xs : List α) (h : ∀ x ∈ xs, ∃ ρ1, tg (.d (dt x)) ρ = some ρ1 ∧ t ρ1 S = .ok (p x) S ∧ f ρ1 S = .ok (.d (g x)) S) (hl : xs.length ≤ 1000) : lcL tg t f ρ (xs.map dt) [] S = .ok ((xs.filter p).map g) S := by
  suffices H : ∀ (xs : List α) (acc : List D), (∀ x ∈ xs, ∃ ρ1, tg (.d (dt x)) ρ = some ρ1 ∧ t ρ1 S = .ok (p x) S ∧ f ρ1 S = .ok (.d (g x)) S) → acc.length + xs.length ≤ 1000 → lcL tg t f ρ (xs.map dt) acc S = .ok (acc ++ (xs.filter p).map g) S by
    have := H xs [] h (by simpa using hl)
    simpa using this
  intro xs
  induction xs with
  | nil => intro acc _ _; simp
  | cons x xs ih =>
    intro acc h hl
    obtain ⟨ρ1, e1, e2, e3⟩ := h x (by simp)
    have hl' : acc.length + (xs.length + 1) ≤ 1000 := hl
    have hs : acc.length < sizeLine := Nat.lt_of_lt_of_le (by omega) (line1000 (Nat.le_refl 1000))
    rw [List.map_cons]
    unfold lcL
    cases q : p x with
    | true =>
      have ih := ih (acc ++ [g x]) (fun y hy => h y (by simp [hy])) (by simp; omega)
      rw [q] at e2
      simp only [e1, e2, noX_ok, bind_ok, if_true, e3, fr_d, hs]
      rw [ih]
      simp [q]
    | false =>
      have ih := ih acc (fun y hy => h y (by simp [hy])) (by omega)
      rw [q] at e2
      simp only [e1, e2, noX_ok, bind_ok, Bool.false_eq_true, if_false]
      rw [ih]
      simp [q]
theorem any_bools (bs : List Bool) (S : Store) : fAny [.d (.list (bs.map PyData.bool))] S = .ok (.d (.bool (bs.any id))) S := by
  have h1 : PyData.plainAll (bs.map PyData.bool) = true := by induction bs with
    | nil => rfl
    | cons n bs ih => simp [PyData.plainAll, PyData.plain, ih]
  have h2 : PyData.depthAll (bs.map PyData.bool) = 0 := by induction bs with
    | nil => rfl
    | cons n bs ih => simp [PyData.depthAll, PyData.depth, ih (by simpa [PyData.plainAll, PyData.plain] using h1)]
  have h3 : (bs.map PyData.bool).all fitsB = true := by simp [fitsB]
  have h4 : (bs.map PyData.bool).any PyData.truthy = bs.any id := by
    rw [List.any_map]
    congr 1
  simp [fAny, fSeq, seqOf, seqOk, h1, h2, h3, h4]
theorem oEq_same {d : D} {S : Store} (h : shal d = true) : oEq (.d d) (.d d) S = .ok (.d (.bool true)) S := by
  have p : d.plain = true := by simp [shal] at h; exact h.1
  simp [oEq, h, eqv_refl d p]
theorem oNe_same {d : D} {S : Store} (h : shal d = true) : oNe (.d d) (.d d) S = .ok (.d (.bool false)) S := by
  have p : d.plain = true := by simp [shal] at h; exact h.1
  simp [oNe, h, eqv_refl d p]
theorem zip_map {α β : Type} (f : α → D) (g : β → D) (xs : List α) (ys : List β) : zipD (xs.map f) (ys.map g) = (List.zip xs ys).map fun p => .tuple [f p.1, g p.2] := by
  unfold zipD
  rw [List.zipWith_map, List.zip, List.map_zipWith]
theorem lcL_map {α : Type} {tg : Tg} {f : Ev} {ρ : Env} {S : Store} (dt : α → D) (g : α → D) (xs : List α) (h : ∀ x ∈ xs, ∃ ρ1, tg (.d (dt x)) ρ = some ρ1 ∧ f ρ1 S = .ok (.d (g x)) S) (hl : xs.length ≤ 1000) : lcL tg tYesD f ρ (xs.map dt) [] S = .ok (xs.map g) S := by
  suffices H : ∀ (xs : List α) (acc : List D), (∀ x ∈ xs, ∃ ρ1, tg (.d (dt x)) ρ = some ρ1 ∧ f ρ1 S = .ok (.d (g x)) S) → acc.length + xs.length ≤ 1000 → lcL tg tYesD f ρ (xs.map dt) acc S = .ok (acc ++ xs.map g) S by
    have := H xs [] h (by simpa using hl)
    simpa using this
  intro xs
  induction xs with
  | nil => intro acc _ _; simp
  | cons x xs ih =>
    intro acc h hl
    obtain ⟨ρ1, e1, e2⟩ := h x (by simp)
    have hl' : acc.length + (xs.length + 1) ≤ 1000 := hl
    have hs : acc.length < sizeLine := Nat.lt_of_lt_of_le (by omega) (line1000 (Nat.le_refl 1000))
    have ih := ih (acc ++ [g x]) (fun y hy => h y (by simp [hy])) (by simp; omega)
    rw [List.map_cons]
    unfold lcL
    simp only [e1, ap_tYesD, noX_ok, bind_ok, if_true, e2, fr_d, hs]
    rw [ih]
    simp
theorem zip_mem {ds : List D} {x : D} (h : x ∈ zipD ds ds) : ∃ d ∈ ds, x = .tuple [d, d] := by
  unfold zipD at h
  rw [List.zipWith_self] at h
  obtain ⟨d, hd, rfl⟩ := List.mem_map.mp h
  exact ⟨d, hd, rfl⟩
theorem all_true {n : Nat} {S : Store} (ds : List D) (h : ds = List.replicate n (.bool true)) : fAll [.d (.list ds)] S = .ok (.d (.bool true)) S := by
  have := all_bools (List.replicate n true) S
  rw [List.map_replicate, ← h] at this
  simpa using this
def mnL : List Int → Int
  | [] => 0
  | x :: xs => xs.foldl min x
def mxL : List Int → Int
  | [] => 0
  | x :: xs => xs.foldl max x
theorem fold_min_le : ∀ (xs : List Int) (a : Int), xs.foldl min a ≤ a ∧ (∀ x ∈ xs, xs.foldl min a ≤ x) ∧ (xs.foldl min a = a ∨ xs.foldl min a ∈ xs)
  | [], a => ⟨Int.le_refl _, by simp, .inl rfl⟩
  | y :: ys, a => by
    obtain ⟨h1, h2, h3⟩ := fold_min_le ys (min a y)
    rw [List.foldl_cons]
    refine ⟨by omega, fun x hx => ?_, ?_⟩
    · rcases List.mem_cons.mp hx with rfl | hx
      · omega
      · exact h2 x hx
    · rcases h3 with h3 | h3
      · by_cases z : a ≤ y
        · left; omega
        · right; rw [h3, show min a y = y by omega]; exact List.mem_cons_self
      · right; exact List.mem_cons_of_mem _ h3
theorem fold_max_le : ∀ (xs : List Int) (a : Int), a ≤ xs.foldl max a ∧ (∀ x ∈ xs, x ≤ xs.foldl max a) ∧ (xs.foldl max a = a ∨ xs.foldl max a ∈ xs)
  | [], a => ⟨Int.le_refl _, by simp, .inl rfl⟩
  | y :: ys, a => by
    obtain ⟨h1, h2, h3⟩ := fold_max_le ys (max a y)
    rw [List.foldl_cons]
    refine ⟨by omega, fun x hx => ?_, ?_⟩
    · rcases List.mem_cons.mp hx with rfl | hx
      · omega
      · exact h2 x hx
    · rcases h3 with h3 | h3
      · by_cases z : y ≤ a
        · left; omega
        · right; rw [h3, show max a y = y by omega]; exact List.mem_cons_self
      · right; exact List.mem_cons_of_mem _ h3
theorem mn_le {F : List Int} {x : Int} (h : x ∈ F) : mnL F ≤ x := by
  cases F with
  | nil => cases h
  | cons y ys =>
    obtain ⟨h1, h2, _⟩ := fold_min_le ys y
    rcases List.mem_cons.mp h with rfl | h
    · exact h1
    · exact h2 x h
theorem mn_mem {F : List Int} (h : F ≠ []) : mnL F ∈ F := by
  cases F with
  | nil => exact absurd rfl h
  | cons y ys =>
    obtain ⟨_, _, h3⟩ := fold_min_le ys y
    rcases h3 with h3 | h3
    · show ys.foldl min y ∈ _; rw [h3]; exact List.mem_cons_self
    · exact List.mem_cons_of_mem _ h3
theorem le_mx {F : List Int} {x : Int} (h : x ∈ F) : x ≤ mxL F := by
  cases F with
  | nil => cases h
  | cons y ys =>
    obtain ⟨h1, h2, _⟩ := fold_max_le ys y
    rcases List.mem_cons.mp h with rfl | h
    · exact h1
    · exact h2 x h
theorem mx_mem {F : List Int} (h : F ≠ []) : mxL F ∈ F := by
  cases F with
  | nil => exact absurd rfl h
  | cons y ys =>
    obtain ⟨_, _, h3⟩ := fold_max_le ys y
    rcases h3 with h3 | h3
    · show ys.foldl max y ∈ _; rw [h3]; exact List.mem_cons_self
    · exact List.mem_cons_of_mem _ h3
def atN (F : List Int) (i : Nat) : Int := F.getD i 0
theorem atN_lt {F : List Int} {i : Nat} (h : i < F.length) : atN F i = F[i] := by simp [atN, h]
theorem atN_mem {F : List Int} {i : Nat} (h : i < F.length) : atN F i ∈ F := by rw [atN_lt h]; exact List.getElem_mem h
def iD (F : List Int) : List D := F.map PyData.int
theorem alike_ints (ns : List Int) : alikeOk (ns.map PyData.int) = true := by
  simp [alikeOk, PySem.W.alike, isNone]
theorem plain_ints (ns : List Int) : PyData.plainAll (ns.map PyData.int) = true ∧ PyData.depthAll (ns.map PyData.int) = 0 := by
  induction ns with
  | nil => exact ⟨rfl, rfl⟩
  | cons n ns ih => simp [PyData.plainAll, PyData.plain, PyData.depthAll, PyData.depth, ih.1, ih.2]
theorem seqok_ints (ns : List Int) : seqOk (ns.map PyData.int) = true := by
  have p := plain_ints ns
  unfold seqOk
  rw [p.1, p.2]
  rfl
theorem max_of {v : Vl} {F : List Int} {S : Store} (h : view S v = some (.list (iD F))) (h0 : F ≠ []) : fMax1 [v] S = .ok (.d (.int (mxL F))) S := by
  cases F with
  | nil => exact absurd rfl h0
  | cons n ns =>
    have a := alike_ints (n :: ns)
    have m := PySem.W.maxD_ints n ns
    have ok := seqok_ints (n :: ns)
    simp only [List.map_cons] at a ok
    simp [fMax1, fSeq, h, seqOf, ok, a, m, iD, mxL]
theorem min_of {v : Vl} {F : List Int} {S : Store} (h : view S v = some (.list (iD F))) (h0 : F ≠ []) : fMin1 [v] S = .ok (.d (.int (mnL F))) S := by
  cases F with
  | nil => exact absurd rfl h0
  | cons n ns =>
    have a := alike_ints (n :: ns)
    have m := PySem.W.minD_ints n ns
    have ok := seqok_ints (n :: ns)
    simp only [List.map_cons] at a ok
    simp [fMin1, fSeq, h, seqOf, ok, a, m, iD, mnL]
theorem iD_set {F : List Int} {i : Nat} {v : Int} : (iD F).set i (.int v) = iD (F.set i v) := by simp [iD, List.map_set]
theorem iD_len {F : List Int} : (iD F).length = F.length := by simp [iD]
theorem at_iD {F : List Int} {i : Nat} (h : i < F.length) : atI (iD F) (i : Nat) = some (.int (atN F i)) := by
  rw [atI_nat, atN_lt h]
  simp [iD, h]
theorem ixN_ok {n i : Nat} (h : i < n) : ixN n (i : Int) = some i := by
  have : (i : Int) < n := by omega
  simp [ixN, this]
theorem sum_of (ns : List Int) (S : Store) : fSum1 [.d (.list (iD ns))] S = .ok (.d (.int ns.sum)) S := by
  have h : intsOf (iD ns) = some ns := by
    unfold iD
    induction ns with
    | nil => rfl
    | cons n ns ih => simp [intsOf, ih]
  simp [fSum1, h]
theorem sort_ints {F : List Int} (h : F.Pairwise (· ≤ ·)) : sortD (iD F) = iD F := by
  unfold sortD iD
  refine List.mergeSort_of_pairwise ?_
  rw [List.pairwise_map]
  refine h.imp fun {a b} hab => ?_
  have e : PySem.W.dataLe false (fun d => d) (PyData.int a) (PyData.int b) = decide (a ≤ b) := congrFun (congrFun (PySem.W.dataLe_int (fun z : Int => z)) a) b
  rw [e]
  simpa using hab
theorem sorted_ints {F : List Int} {S : Store} (h : F.Pairwise (· ≤ ·)) (hl : F.length ≤ 900) : fSortL false [.d (.list (iD F))] S = .ok (.d (.list (iD F))) S := by
  have a : seqOk (iD F) = true := seqok_ints F
  have b : sortB (iD F) = true := by
    have := alike_ints F
    unfold sortB iD
    rw [this]
    simp
  have sz : F.length ≤ sizeLine := line1000 (by omega)
  simp [fSortL, a, b, iD_len, sz, sort_ints h]
theorem shal_ints (F : List Int) : shal (.list (iD F)) = true := by
  have p := plain_ints F
  simp [shal, PyData.plain, PyData.depth, iD, p.1, p.2]
theorem mx_le {F : List Int} {b : Int} (h0 : F ≠ []) (h : ∀ x ∈ F, x ≤ b) : mxL F ≤ b := h _ (mx_mem h0)
def rangeC (i c : Int) (n : Nat) : List D := (List.range n).map fun k => .int (i + (k : Nat) * c)
def stepOk (i j c : Int) : Bool := decide (c ≠ 0) && (decide (c.natAbs < 1073741824) && Builtin.Range.small i j c)
theorem stepOk_p {i j c : Int} (h : stepOk i j c = true) : RgC i j c (Builtin.Range.rangeSize i j c).toNat := by
  simp only [stepOk, Bool.and_eq_true, decide_eq_true_eq] at h
  exact ⟨h.1, h.2.1, h.2.2, PyProof.Rows.rangeSize_toNat i j c⟩
def iRangeC (f : Av) : Iv := fun ρ S => (f ρ S).bind fun vs S1 => match vs with
  | [v, u, w] => match view S1 v, view S1 u, view S1 w with
    | some (.int i), some (.int j), some (.int c) => if stepOk i j c = true then .ok (rangeC i c (Builtin.Range.rangeSize i j c).toNat) S1 else .bad
    | _, _, _ => .bad
  | _ => .bad
section
variable {K : PySem.W.Frag} {F : Addr → Prop} {H : Hp}
theorem rangeC_len {i c : Int} {n : Nat} : (rangeC i c n).length = n := by simp [rangeC]
theorem yl_rangeC {i c : Int} {n : Nat} : Yl K F H (Itc i c n) (rangeC i c n) := by
  refine ⟨fun k H' hk _ => by rw [rangeC_len] at hk; exact hk, fun H' _ => by rw [rangeC_len]; exact Nat.le_refl _, fun k H' v H'' hk _ y => ?_⟩
  rw [rangeC_len] at hk
  exact ⟨.int (i + (k : Nat) * c), by simp [rangeC, hk], .inl ⟨y.1, by rw [y.2]; exact .int _⟩⟩
end
section
variable {K : PySem.W.Frag} {mg : Str → Option Value} {φ : Nat → Addr} {F : Addr → Prop} {H : Hp} {n : Nat}
theorem reps3 {xs : List V} {v u w : Vl} (r : RepVs K mg φ F H n xs [v, u, w]) : ∃ x y z, xs = [x, y, z] ∧ RepV K mg φ F H n x v ∧ RepV K mg φ F H n y u ∧ RepV K mg φ F H n z w := by
  cases xs with
  | nil => exact r.elim
  | cons x xs =>
    obtain ⟨y, z, e, h1, h2⟩ := reps2 r.2
    exact ⟨x, y, z, by rw [e], r.1, h1, h2⟩
end
theorem cons3 {f g k : Ev} {ρ : Env} {S S1 : Store} {vs : List Vl} (h : aCons f (aCons g (aCons k aNil)) ρ S = .ok vs S1) : ∃ v u w, vs = [v, u, w] := by
  unfold aCons at h
  cases e : f ρ S with
  | ok v S2 =>
    simp only [e, bind_ok] at h
    cases e2 : ((g ρ S2).bind fun v S1 => ((k ρ S1).bind fun v S1 => (aNil ρ S1).bind fun vs S2 => Res.ok (v :: vs) S2).bind fun vs S2 => Res.ok (v :: vs) S2) with
    | ok us S3 =>
      simp only [e2, bind_ok] at h
      cases h
      obtain ⟨u, w, rfl⟩ := cons2 (f := g) (g := k) e2
      exact ⟨v, u, w, rfl⟩
    | ex x S2 => simp only [e2, bind_ex] at h; cases h
    | bad => simp only [e2, bind_bad] at h; cases h
  | ex x S2 => simp only [e, bind_ex] at h; cases h
  | bad => simp only [e, bind_bad] at h; cases h
section
variable {X : Cx} {W : WX} {tg : Expr}
theorem range_3 {f : Av} {σ : L2.St} {H : Hp} {R : It → Hp → Prop} (h : RI τ X.K X.mg W (iRangeC f) σ H R) (h1 : ∀ ρ S vs S1, f ρ S = .ok vs S1 → ∃ v u w, vs = [v, u, w]) : iRng3 (RA τ X.K X.mg W f) σ H R := by
  obtain ⟨φ, F, ρ, S, g, sl, p⟩ := h
  refine ⟨φ, F, ρ, S, g, sl, ?_⟩
  unfold iRangeC at p
  cases e0 : f ρ S with
  | bad => rw [e0] at p; exact p
  | ex e S1 => rw [e0] at p; exact p
  | ok vs S1 =>
    rw [e0] at p
    obtain ⟨v, u, w, rfl⟩ := h1 _ _ _ _ e0
    intro φ1 F1 H1 nw1 xs r
    have p1 := PostG.start g nw1 p
    obtain ⟨x, y, z, rfl, r1, r2, r3⟩ := reps3 r
    simp only [bind_ok] at p1
    split at p1
    · rename_i i j c e1 e2 e3
      by_cases hl : stepOk i j c = true
      · rw [if_pos hl] at p1
        exact ⟨i, j, c, _, by rw [show x = _ from ob_of nw1.sg r1 e1, show y = _ from ob_of nw1.sg r2 e2, show z = _ from ob_of nw1.sg r3 e3], stepOk_p hl, p1 _ _ _ (.refl nw1.sg) _ yl_rangeC⟩
      · rw [if_neg hl] at p1; exact p1.elim
    · exact p1.elim
theorem di_range3 {c d e : Expr} {f f' f'' : Ev} {p pos : Pos} (hg : Gl X "range") (hm : X.mg "range" = none) (h : DA τ X W [c, d, e] (aCons f (aCons f' (aCons f'' aNil)))) (hs : starEach [c, d, e] X.env = (false, eval c X.env) :: starEach [d, e] X.env := by rfl) (hpl : (backTo pos (starEach [d, e] X.env)).any (·.1) = false := by rfl) :
    DI τ X W tg (.Call (.Name "range" p) [c, d, e] [] pos) (iRangeC (aCons f (aCons f' (aCons f'' aNil)))) := ⟨PI.mono (pi_range3 hg hm h.r hs hpl) fun σ H Q q => range_3 q fun _ _ _ _ => cons3⟩
end
def topS (i : Nat) : Stmt := PySem.Challenge.pw_airfield_k77_whole_heights_kept_apart.main.body.getD i (.Pass ⟨0, 0, 0, 0⟩)
abbrev s__law_hand : Stmt := topS 31
abbrev s_is_tuple_of : Stmt := topS 3
abbrev s_is_integer : Stmt := topS 1
abbrev s_is_within : Stmt := topS 2
abbrev s_is_pressure : Stmt := topS 18
abbrev s_is_pair : Stmt := topS 22
abbrev s_check_pressure : Stmt := topS 19
abbrev s_raw_true : Stmt := topS 20
abbrev s_between : Stmt := topS 24
abbrev s_check_pairs : Stmt := topS 25
abbrev s_level_of : Stmt := topS 23
abbrev s_raw_apart : Stmt := topS 26
abbrev s_kept_apart : Stmt := topS 27
abbrev s_nearest_two : Stmt := topS 28
abbrev s_check_height : Stmt := topS 17
abbrev s_raw_level : Stmt := topS 21
abbrev s_clear_levels : Stmt := topS 29
abbrev s__law_draw : Stmt := topS 32
abbrev s__law_setting : Stmt := topS 35
abbrev s__law_some : Stmt := topS 33
abbrev s__law_height : Stmt := topS 36
abbrev s__law_true : Stmt := topS 37
abbrev s__law_is_right : Stmt := topS 42
abbrev s__law_are_levels_right : Stmt := topS 43
abbrev s__law_deep : Stmt := topS 34
abbrev s__law_no_pair : Stmt := topS 40
abbrev s__law_no_setting : Stmt := topS 38
abbrev s__law_no_height : Stmt := topS 39
abbrev s__law_word : Stmt := topS 41
abbrev s__law_are_refused : Stmt := topS 44
abbrev s_law : Stmt := topS 45
def kit_NoNumber : Str → Option Bool := fun y => List.lookup y [("NoNumber", true), ("NoPair", false), ("NoPairs", false)]
def kit_NoPair : Str → Option Bool := fun y => List.lookup y [("NoNumber", false), ("NoPair", true), ("NoPairs", false)]
def kit_NoPairs : Str → Option Bool := fun y => List.lookup y [("NoNumber", false), ("NoPair", false), ("NoPairs", true)]
def kit_ValueError : Str → Option Bool := fun y => List.lookup y [("NoNumber", true), ("NoPair", true), ("NoPairs", true)]
def sub_FieldError : Str → Option Bool := fun y => List.lookup y [("NoNumber", true), ("NoPair", true), ("NoPairs", true)]
structure Hd (τ : Tb) (K : PySem.W.Frag) (mg : Str → Option Value) (base : Heap) : Prop where
  d__law_hand : DefF K mg "_law_hand" "_law_hand" s__law_hand
  d_is_tuple_of : DefF K mg "is_tuple_of" "is_tuple_of" s_is_tuple_of
  d_is_integer : DefF K mg "is_integer" "is_integer" s_is_integer
  d_is_within : DefF K mg "is_within" "is_within" s_is_within
  d_is_pressure : DefF K mg "is_pressure" "is_pressure" s_is_pressure
  d_is_pair : DefF K mg "is_pair" "is_pair" s_is_pair
  d_check_pressure : DefF K mg "check_pressure" "check_pressure" s_check_pressure
  d_raw_true : DefF K mg "raw_true" "raw_true" s_raw_true
  d_between : DefF K mg "between" "between" s_between
  d_check_pairs : DefF K mg "check_pairs" "check_pairs" s_check_pairs
  d_level_of : DefF K mg "level_of" "level_of" s_level_of
  d_raw_apart : DefF K mg "raw_apart" "raw_apart" s_raw_apart
  d_kept_apart : DefF K mg "kept_apart" "kept_apart" s_kept_apart
  d_nearest_two : DefF K mg "nearest_two" "nearest_two" s_nearest_two
  d_check_height : DefF K mg "check_height" "check_height" s_check_height
  d_raw_level : DefF K mg "raw_level" "raw_level" s_raw_level
  d_clear_levels : DefF K mg "clear_levels" "clear_levels" s_clear_levels
  d__law_draw : DefF K mg "_law_draw" "_law_draw" s__law_draw
  d__law_setting : DefF K mg "_law_setting" "_law_setting" s__law_setting
  d__law_some : DefF K mg "_law_some" "_law_some" s__law_some
  d__law_height : DefF K mg "_law_height" "_law_height" s__law_height
  d__law_true : DefF K mg "_law_true" "_law_true" s__law_true
  d__law_is_right : DefF K mg "_law_is_right" "_law_is_right" s__law_is_right
  d__law_are_levels_right : DefF K mg "_law_are_levels_right" "_law_are_levels_right" s__law_are_levels_right
  d__law_deep : DefF K mg "_law_deep" "_law_deep" s__law_deep
  d__law_no_pair : DefF K mg "_law_no_pair" "_law_no_pair" s__law_no_pair
  d__law_no_setting : DefF K mg "_law_no_setting" "_law_no_setting" s__law_no_setting
  d__law_no_height : DefF K mg "_law_no_height" "_law_no_height" s__law_no_height
  d__law_word : DefF K mg "_law_word" "_law_word" s__law_word
  d__law_are_refused : DefL τ K mg base "_law_are_refused" "_law_are_refused" s__law_are_refused
  d_law : DefF K mg "law" "law" s_law
  i_NoNumber : IsF K mg "NoNumber" kit_NoNumber
  i_NoPair : IsF K mg "NoPair" kit_NoPair
  i_NoPairs : IsF K mg "NoPairs" kit_NoPairs
  i_ValueError : IsF K mg "ValueError" kit_ValueError
  y_FieldError : TryF K mg "FieldError" sub_FieldError
  z_abs : mg "abs" = none
  z_all : mg "all" = none
  z_bool : mg "bool" = none
  z_enumerate : mg "enumerate" = none
  z_int : mg "int" = none
  z_isinstance : mg "isinstance" = none
  z_len : mg "len" = none
  z_min : mg "min" = none
  z_range : mg "range" = none
  z_repr : mg "repr" = none
  z_sorted : mg "sorted" = none
  z_tuple : mg "tuple" = none
  e_NoNumber : ExF K mg "NoNumber"
  e_NoPair : ExF K mg "NoPair"
  e_NoPairs : ExF K mg "NoPairs"
  c_EACH : IntF mg "EACH" 30
  c_LEAST_PRESSURE : IntF mg "LEAST_PRESSURE" 900
  c_MOST_HEIGHT : IntF mg "MOST_HEIGHT" 60000
  c_MOST_LEVEL : IntF mg "MOST_LEVEL" 500
  c_MOST_PAIRS : IntF mg "MOST_PAIRS" 12
  c_MOST_PRESSURE : IntF mg "MOST_PRESSURE" 1100
  c_PLAIN : IntF mg "PLAIN" 1013
abbrev N__law_hand : List Str := ["script", "cells", "cell"]
theorem sc__law_hand : FnScope N__law_hand ["script"] (defScope s__law_hand) := ⟨rfl, rfl, rfl, by decide +kernel, rfl, by decide +kernel, by decide +kernel⟩
noncomputable def l0__law_hand : Ev := (eCall fAbs (aCons (eCall fInt (aCons (eVar 2) aNil)) aNil))
noncomputable def b__law_hand : Sv := (sCons (sSet 1 (eLc false (iSeq (eSl false (eVar 0) pNo (pAt (eD (.int 63))))) (gN 2) tYesD l0__law_hand [2]))
  (sRet (eLst true (aCons (eVar 1) (aCons (eD (.int 0)) (aCons (eD (.int 0)) (aCons (eBin (oAdd false) (eD (.int 431)) (eBin (oMul false) (eD (.int 7)) (eCall fLen (aCons (eVar 1) aNil)))) (aCons (eD (.int 0)) aNil))))))))
noncomputable def g__law_hand : Fn := fnOf 3 b__law_hand
theorem bd__law_hand {P : Program} {w : World} {K : PySem.W.Frag} {mg : Str → Option Value} {base : Heap} (h : Hd τ K mg base) (f : Addr) (cdv : Value) (B : Around) (fs : List PySem.Env) (s : Shared) (H : Hp) (E : XK) (cc : Cc (cxD P w K mg base N__law_hand "_law_hand" s__law_hand f cdv B fs s H E) (wD E) 0) : DB τ (cxD P w K mg base N__law_hand "_law_hand" s__law_hand f cdv B fs s H E) (wD E) (defBody s__law_hand) b__law_hand :=
  (db_cons (ds_lc 1 false cc rfl rfl (by rfl) (di_seq (de_sl false (de_var 0) dp_no (dp_at de_int))) (blkOk_by (N := N__law_hand) (sc := defScope s__law_hand) (own := [("cell", 2)]) (by decide +kernel)) (fun _ _ _ _ _ => (dg_name 2 cc.blk.nd rfl (.inl rfl))) (fun _ _ _ _ _ => dts_nil) (fun _ _ _ _ _ => (de_callB call_abs ok_abs (by rfl) h.z_abs bb_abs (da_cons (de_callTy call_int1 ok_int (by rfl) h.z_int bb_int (da_cons (de_var 2) da_nil)) da_nil))))
  (db_one (ds_ret (de_lst true (da_cons (de_var 1) (da_cons de_int (da_cons de_int (da_cons (de_bin op_addX ok_add de_int (de_bin op_mulX' ok_mul de_int (de_callB call_lenX ok_len (by rfl) h.z_len bb_len (da_cons (de_var 1) da_nil)))) (da_cons de_int da_nil)))))))))
theorem bi__law_hand (kV doc pm : Value) (an : Option Addr) (cdv ct : Value) (us : List Value) (hl : us.length = 1) : bindArgs (PySem.W.fnOf "_law_hand" "_law_hand" (defArgs s__law_hand) (defBody s__law_hand) (defScope s__law_hand) .none kV doc pm an cdv ct) ⟨us, []⟩ = pure ((["script"] : List Str).zip us) := match us, hl with | [_], _ => rfl
theorem ok__law_hand {P : Program} {w : World} {K : PySem.W.Frag} {mg : Str → Option Value} {base : Heap} (h : Hd τ K mg base) : DefOk τ P w K mg base 1 1 "_law_hand" g__law_hand :=
  def_ok (b := b__law_hand) (N := N__law_hand) (ps := ["script"]) (st := s__law_hand) h.d__law_hand sc__law_hand rfl bi__law_hand (bd__law_hand h)
abbrev N_is_tuple_of : List Str := ["thing", "many"]
theorem sc_is_tuple_of : FnScope N_is_tuple_of ["thing", "many"] (defScope s_is_tuple_of) := ⟨rfl, rfl, rfl, by decide +kernel, rfl, by decide +kernel, by decide +kernel⟩
noncomputable def b_is_tuple_of : Sv := (sRet (eAnd (eCall fIsi (aCons (eVar 0) (aCons (eTy .tup) aNil))) (eBin oEq (eCall fLen (aCons (eVar 0) aNil)) (eVar 1))))
noncomputable def g_is_tuple_of : Fn := fnOf 2 b_is_tuple_of
theorem bd_is_tuple_of {P : Program} {w : World} {K : PySem.W.Frag} {mg : Str → Option Value} {base : Heap} (h : Hd τ K mg base) (f : Addr) (cdv : Value) (B : Around) (fs : List PySem.Env) (s : Shared) (H : Hp) (E : XK) (cc : Cc (cxD P w K mg base N_is_tuple_of "is_tuple_of" s_is_tuple_of f cdv B fs s H E) (wD E) 0) : DB τ (cxD P w K mg base N_is_tuple_of "is_tuple_of" s_is_tuple_of f cdv B fs s H E) (wD E) (defBody s_is_tuple_of) b_is_tuple_of :=
  (db_one (ds_ret (de_and (de_callB call_isiX ok_isi (by rfl) h.z_isinstance bb_isinstance (da_cons (de_var 0) (da_cons (de_ty (T := .tup) (by rfl) h.z_tuple bb_tuple) da_nil))) (de_one (de_cmp (op_eqX cc.hu) ok_eq (de_callB call_lenX ok_len (by rfl) h.z_len bb_len (da_cons (de_var 0) da_nil)) (de_var 1) (nomark _))))))
theorem bi_is_tuple_of (kV doc pm : Value) (an : Option Addr) (cdv ct : Value) (us : List Value) (hl : us.length = 2) : bindArgs (PySem.W.fnOf "is_tuple_of" "is_tuple_of" (defArgs s_is_tuple_of) (defBody s_is_tuple_of) (defScope s_is_tuple_of) .none kV doc pm an cdv ct) ⟨us, []⟩ = pure ((["thing", "many"] : List Str).zip us) := match us, hl with | [_, _], _ => rfl
theorem ok_is_tuple_of {P : Program} {w : World} {K : PySem.W.Frag} {mg : Str → Option Value} {base : Heap} (h : Hd τ K mg base) : DefOk τ P w K mg base 1 2 "is_tuple_of" g_is_tuple_of :=
  def_ok (b := b_is_tuple_of) (N := N_is_tuple_of) (ps := ["thing", "many"]) (st := s_is_tuple_of) h.d_is_tuple_of sc_is_tuple_of rfl bi_is_tuple_of (bd_is_tuple_of h)
abbrev N_is_integer : List Str := ["thing"]
theorem sc_is_integer : FnScope N_is_integer ["thing"] (defScope s_is_integer) := ⟨rfl, rfl, rfl, by decide +kernel, rfl, by decide +kernel, by decide +kernel⟩
noncomputable def b_is_integer : Sv := (sRet (eAnd (eCall fIsi (aCons (eVar 0) (aCons (eTy .int) aNil))) (eNot (eCall fIsi (aCons (eVar 0) (aCons (eTy .bool) aNil))))))
noncomputable def g_is_integer : Fn := fnOf 1 b_is_integer
theorem bd_is_integer {P : Program} {w : World} {K : PySem.W.Frag} {mg : Str → Option Value} {base : Heap} (h : Hd τ K mg base) (f : Addr) (cdv : Value) (B : Around) (fs : List PySem.Env) (s : Shared) (H : Hp) (E : XK) (cc : Cc (cxD P w K mg base N_is_integer "is_integer" s_is_integer f cdv B fs s H E) (wD E) 0) : DB τ (cxD P w K mg base N_is_integer "is_integer" s_is_integer f cdv B fs s H E) (wD E) (defBody s_is_integer) b_is_integer :=
  (db_one (ds_ret (de_and (de_callB call_isiX ok_isi (by rfl) h.z_isinstance bb_isinstance (da_cons (de_var 0) (da_cons (de_ty (T := .int) (by rfl) h.z_int bb_int) da_nil))) (de_one (de_not (de_callB call_isiX ok_isi (by rfl) h.z_isinstance bb_isinstance (da_cons (de_var 0) (da_cons (de_ty (T := .bool) (by rfl) h.z_bool bb_bool) da_nil))))))))
theorem bi_is_integer (kV doc pm : Value) (an : Option Addr) (cdv ct : Value) (us : List Value) (hl : us.length = 1) : bindArgs (PySem.W.fnOf "is_integer" "is_integer" (defArgs s_is_integer) (defBody s_is_integer) (defScope s_is_integer) .none kV doc pm an cdv ct) ⟨us, []⟩ = pure ((["thing"] : List Str).zip us) := match us, hl with | [_], _ => rfl
theorem ok_is_integer {P : Program} {w : World} {K : PySem.W.Frag} {mg : Str → Option Value} {base : Heap} (h : Hd τ K mg base) : DefOk τ P w K mg base 1 1 "is_integer" g_is_integer :=
  def_ok (b := b_is_integer) (N := N_is_integer) (ps := ["thing"]) (st := s_is_integer) h.d_is_integer sc_is_integer rfl bi_is_integer (bd_is_integer h)
abbrev N_is_within : List Str := ["thing", "least", "most"]
theorem sc_is_within : FnScope N_is_within ["thing", "least", "most"] (defScope s_is_within) := ⟨rfl, rfl, rfl, by decide +kernel, rfl, by decide +kernel, by decide +kernel⟩
noncomputable def b_is_within : Sv := (sRet (eAnd (eCallN 1 g_is_integer (aCons (eVar 0) aNil)) (eChain oLe oLe (eVar 1) (eVar 0) (eVar 2))))
noncomputable def g_is_within : Fn := fnOf 3 b_is_within
theorem bd_is_within {P : Program} {w : World} {K : PySem.W.Frag} {mg : Str → Option Value} {base : Heap} (h : Hd τ K mg base) (f : Addr) (cdv : Value) (B : Around) (fs : List PySem.Env) (s : Shared) (H : Hp) (E : XK) (cc : Cc (cxD P w K mg base N_is_within "is_within" s_is_within f cdv B fs s H E) (wD E) 1) : DB τ (cxD P w K mg base N_is_within "is_within" s_is_within f cdv B fs s H E) (wD E) (defBody s_is_within) b_is_within :=
  (db_one (ds_ret (de_and (de_callD (ok_is_integer h) cc (by decide) (by rfl) (da_cons (de_var 0) da_nil)) (de_one (de_chain (op_leX cc.hu) ok_le (op_leX cc.hu) ok_le (de_var 1) (de_var 0) (de_var 2))))))
theorem bi_is_within (kV doc pm : Value) (an : Option Addr) (cdv ct : Value) (us : List Value) (hl : us.length = 3) : bindArgs (PySem.W.fnOf "is_within" "is_within" (defArgs s_is_within) (defBody s_is_within) (defScope s_is_within) .none kV doc pm an cdv ct) ⟨us, []⟩ = pure ((["thing", "least", "most"] : List Str).zip us) := match us, hl with | [_, _, _], _ => rfl
theorem ok_is_within {P : Program} {w : World} {K : PySem.W.Frag} {mg : Str → Option Value} {base : Heap} (h : Hd τ K mg base) : DefOk τ P w K mg base 2 3 "is_within" g_is_within :=
  def_ok (b := b_is_within) (N := N_is_within) (ps := ["thing", "least", "most"]) (st := s_is_within) h.d_is_within sc_is_within rfl bi_is_within (bd_is_within h)
abbrev N_is_pressure : List Str := ["thing"]
theorem sc_is_pressure : FnScope N_is_pressure ["thing"] (defScope s_is_pressure) := ⟨rfl, rfl, rfl, by decide +kernel, rfl, by decide +kernel, by decide +kernel⟩
noncomputable def b_is_pressure : Sv := (sRet (eCallN 3 g_is_within (aCons (eVar 0) (aCons (eD (.int 900)) (aCons (eD (.int 1100)) aNil)))))
noncomputable def g_is_pressure : Fn := fnOf 1 b_is_pressure
theorem bd_is_pressure {P : Program} {w : World} {K : PySem.W.Frag} {mg : Str → Option Value} {base : Heap} (h : Hd τ K mg base) (f : Addr) (cdv : Value) (B : Around) (fs : List PySem.Env) (s : Shared) (H : Hp) (E : XK) (cc : Cc (cxD P w K mg base N_is_pressure "is_pressure" s_is_pressure f cdv B fs s H E) (wD E) 2) : DB τ (cxD P w K mg base N_is_pressure "is_pressure" s_is_pressure f cdv B fs s H E) (wD E) (defBody s_is_pressure) b_is_pressure :=
  (db_one (ds_ret (de_callD (ok_is_within h) cc (by decide) (by rfl) (da_cons (de_var 0) (da_cons (de_conI h.c_LEAST_PRESSURE (by rfl)) (da_cons (de_conI h.c_MOST_PRESSURE (by rfl)) da_nil))))))
theorem bi_is_pressure (kV doc pm : Value) (an : Option Addr) (cdv ct : Value) (us : List Value) (hl : us.length = 1) : bindArgs (PySem.W.fnOf "is_pressure" "is_pressure" (defArgs s_is_pressure) (defBody s_is_pressure) (defScope s_is_pressure) .none kV doc pm an cdv ct) ⟨us, []⟩ = pure ((["thing"] : List Str).zip us) := match us, hl with | [_], _ => rfl
theorem ok_is_pressure {P : Program} {w : World} {K : PySem.W.Frag} {mg : Str → Option Value} {base : Heap} (h : Hd τ K mg base) : DefOk τ P w K mg base 3 1 "is_pressure" g_is_pressure :=
  def_ok (b := b_is_pressure) (N := N_is_pressure) (ps := ["thing"]) (st := s_is_pressure) h.d_is_pressure sc_is_pressure rfl bi_is_pressure (bd_is_pressure h)
abbrev N_is_pair : List Str := ["thing"]
theorem sc_is_pair : FnScope N_is_pair ["thing"] (defScope s_is_pair) := ⟨rfl, rfl, rfl, by decide +kernel, rfl, by decide +kernel, by decide +kernel⟩
noncomputable def b_is_pair : Sv := (sCons (sIf (tOr (tNot (tOf (eCallN 2 g_is_tuple_of (aCons (eVar 0) (aCons (eD (.int 2)) aNil))))) (tNot (tOf (eCallN 1 g_is_integer (aCons (eBin oIx (eVar 0) (eD (.int 0))) aNil)))))
  (sRet (eD (.bool false)))
  sNil)
  (sRet (eAnd (eCallN 3 g_is_within (aCons (eBin oIx (eVar 0) (eD (.int 0))) (aCons (eUn oNeg (eD (.int 60000))) (aCons (eD (.int 60000)) aNil)))) (eCallN 1 g_is_pressure (aCons (eBin oIx (eVar 0) (eD (.int 1))) aNil)))))
noncomputable def g_is_pair : Fn := fnOf 1 b_is_pair
theorem bd_is_pair {P : Program} {w : World} {K : PySem.W.Frag} {mg : Str → Option Value} {base : Heap} (h : Hd τ K mg base) (f : Addr) (cdv : Value) (B : Around) (fs : List PySem.Env) (s : Shared) (H : Hp) (E : XK) (cc : Cc (cxD P w K mg base N_is_pair "is_pair" s_is_pair f cdv B fs s H E) (wD E) 3) : DB τ (cxD P w K mg base N_is_pair "is_pair" s_is_pair f cdv B fs s H E) (wD E) (defBody s_is_pair) b_is_pair :=
  (db_cons (ds_if (DW.t (dw_or (dt_not (dt_val (de_callD (ok_is_tuple_of h) cc (by decide) (by rfl) (da_cons (de_var 0) (da_cons de_int da_nil))))) (dw_or1 (dt_not (dt_val (de_callD (ok_is_integer h) cc (by decide) (by rfl) (da_cons (de_ix (j := 0) (de_var 0) de_int) da_nil)))))))
  (db_one (ds_ret de_bl))
  db_nil)
  (db_one (ds_ret (de_and (de_callD (ok_is_within h) cc (by decide) (by rfl) (da_cons (de_ix (j := 0) (de_var 0) de_int) (da_cons (de_un un_neg ok_neg (de_conI h.c_MOST_HEIGHT (by rfl))) (da_cons (de_conI h.c_MOST_HEIGHT (by rfl)) da_nil)))) (de_one (de_callD (ok_is_pressure h) cc (by decide) (by rfl) (da_cons (de_ix (j := 0) (de_var 0) de_int) da_nil)))))))
theorem bi_is_pair (kV doc pm : Value) (an : Option Addr) (cdv ct : Value) (us : List Value) (hl : us.length = 1) : bindArgs (PySem.W.fnOf "is_pair" "is_pair" (defArgs s_is_pair) (defBody s_is_pair) (defScope s_is_pair) .none kV doc pm an cdv ct) ⟨us, []⟩ = pure ((["thing"] : List Str).zip us) := match us, hl with | [_], _ => rfl
theorem ok_is_pair {P : Program} {w : World} {K : PySem.W.Frag} {mg : Str → Option Value} {base : Heap} (h : Hd τ K mg base) : DefOk τ P w K mg base 4 1 "is_pair" g_is_pair :=
  def_ok (b := b_is_pair) (N := N_is_pair) (ps := ["thing"]) (st := s_is_pair) h.d_is_pair sc_is_pair rfl bi_is_pair (bd_is_pair h)
abbrev N_check_pressure : List Str := ["pressure"]
theorem sc_check_pressure : FnScope N_check_pressure ["pressure"] (defScope s_check_pressure) := ⟨rfl, rfl, rfl, by decide +kernel, rfl, by decide +kernel, by decide +kernel⟩
noncomputable def b_check_pressure : Sv := (sIf (tNot (tOf (eCallN 1 g_is_pressure (aCons (eVar 0) aNil))))
  (sRaise "NoNumber")
  sNil)
noncomputable def g_check_pressure : Fn := fnOf 1 b_check_pressure
theorem bd_check_pressure {P : Program} {w : World} {K : PySem.W.Frag} {mg : Str → Option Value} {base : Heap} (h : Hd τ K mg base) (f : Addr) (cdv : Value) (B : Around) (fs : List PySem.Env) (s : Shared) (H : Hp) (E : XK) (cc : Cc (cxD P w K mg base N_check_pressure "check_pressure" s_check_pressure f cdv B fs s H E) (wD E) 3) : DB τ (cxD P w K mg base N_check_pressure "check_pressure" s_check_pressure f cdv B fs s H E) (wD E) (defBody s_check_pressure) b_check_pressure :=
  (db_one (ds_if (dt_not (dt_val (de_callD (ok_is_pressure h) cc (by decide) (by rfl) (da_cons (de_var 0) da_nil))))
  (db_one (ds_raise0 cc h.e_NoNumber (by rfl)))
  db_nil))
theorem bi_check_pressure (kV doc pm : Value) (an : Option Addr) (cdv ct : Value) (us : List Value) (hl : us.length = 1) : bindArgs (PySem.W.fnOf "check_pressure" "check_pressure" (defArgs s_check_pressure) (defBody s_check_pressure) (defScope s_check_pressure) .none kV doc pm an cdv ct) ⟨us, []⟩ = pure ((["pressure"] : List Str).zip us) := match us, hl with | [_], _ => rfl
theorem ok_check_pressure {P : Program} {w : World} {K : PySem.W.Frag} {mg : Str → Option Value} {base : Heap} (h : Hd τ K mg base) : DefOk τ P w K mg base 4 1 "check_pressure" g_check_pressure :=
  def_ok (b := b_check_pressure) (N := N_check_pressure) (ps := ["pressure"]) (st := s_check_pressure) h.d_check_pressure sc_check_pressure rfl bi_check_pressure (bd_check_pressure h)
abbrev N_raw_true : List Str := ["shown", "pressure", "setting"]
theorem sc_raw_true : FnScope N_raw_true ["shown", "pressure", "setting"] (defScope s_raw_true) := ⟨rfl, rfl, rfl, by decide +kernel, rfl, by decide +kernel, by decide +kernel⟩
noncomputable def b_raw_true : Sv := (sRet (eBin oSub (eVar 0) (eBin (oMul false) (eD (.int 30)) (eBin oSub (eVar 2) (eVar 1)))))
noncomputable def g_raw_true : Fn := fnOf 3 b_raw_true
theorem bd_raw_true {P : Program} {w : World} {K : PySem.W.Frag} {mg : Str → Option Value} {base : Heap} (h : Hd τ K mg base) (f : Addr) (cdv : Value) (B : Around) (fs : List PySem.Env) (s : Shared) (H : Hp) (E : XK) (cc : Cc (cxD P w K mg base N_raw_true "raw_true" s_raw_true f cdv B fs s H E) (wD E) 0) : DB τ (cxD P w K mg base N_raw_true "raw_true" s_raw_true f cdv B fs s H E) (wD E) (defBody s_raw_true) b_raw_true :=
  (db_one (ds_ret (de_bin op_sub ok_sub (de_var 0) (de_bin op_mulX' ok_mul (de_conI h.c_EACH (by rfl)) (de_bin op_sub ok_sub (de_var 2) (de_var 1))))))
theorem bi_raw_true (kV doc pm : Value) (an : Option Addr) (cdv ct : Value) (us : List Value) (hl : us.length = 3) : bindArgs (PySem.W.fnOf "raw_true" "raw_true" (defArgs s_raw_true) (defBody s_raw_true) (defScope s_raw_true) .none kV doc pm an cdv ct) ⟨us, []⟩ = pure ((["shown", "pressure", "setting"] : List Str).zip us) := match us, hl with | [_, _, _], _ => rfl
theorem ok_raw_true {P : Program} {w : World} {K : PySem.W.Frag} {mg : Str → Option Value} {base : Heap} (h : Hd τ K mg base) : DefOk τ P w K mg base 1 3 "raw_true" g_raw_true :=
  def_ok (b := b_raw_true) (N := N_raw_true) (ps := ["shown", "pressure", "setting"]) (st := s_raw_true) h.d_raw_true sc_raw_true rfl bi_raw_true (bd_raw_true h)
abbrev N_between : List Str := ["one", "other", "pressure", "pair"]
theorem sc_between : FnScope N_between ["one", "other", "pressure"] (defScope s_between) := ⟨rfl, rfl, rfl, by decide +kernel, rfl, by decide +kernel, by decide +kernel⟩
noncomputable def l0_between : Sv := (sIf (tNot (tOf (eCallN 1 g_is_pair (aCons (eVar 3) aNil))))
  (sRaise "NoPair")
  sNil)
noncomputable def b_between : Sv := (sCons (sFor (iSeq (eTup (aCons (eVar 0) (aCons (eVar 1) aNil)))) (gN 3) l0_between)
  (sCons (sExpr (eCallN 1 g_check_pressure (aCons (eVar 2) aNil)))
  (sRet (eCall fAbs (aCons (eBin oSub (eCallN 3 g_raw_true (aCons (eBin oIx (eVar 0) (eD (.int 0))) (aCons (eVar 2) (aCons (eBin oIx (eVar 0) (eD (.int 1))) aNil)))) (eCallN 3 g_raw_true (aCons (eBin oIx (eVar 1) (eD (.int 0))) (aCons (eVar 2) (aCons (eBin oIx (eVar 1) (eD (.int 1))) aNil))))) aNil)))))
noncomputable def g_between : Fn := fnOf 4 b_between
theorem bd_between {P : Program} {w : World} {K : PySem.W.Frag} {mg : Str → Option Value} {base : Heap} (h : Hd τ K mg base) (f : Addr) (cdv : Value) (B : Around) (fs : List PySem.Env) (s : Shared) (H : Hp) (E : XK) (cc : Cc (cxD P w K mg base N_between "between" s_between f cdv B fs s H E) (wD E) 4) : DB τ (cxD P w K mg base N_between "between" s_between f cdv B fs s H E) (wD E) (defBody s_between) b_between :=
  (db_cons (ds_for cc (di_seq (de_tup (da_cons (de_var 0) (da_cons (de_var 1) da_nil)))) (dg_name 3 cc.nd rfl (.inl rfl))
  (db_one (ds_if (dt_not (dt_val (de_callD (ok_is_pair h) cc (by decide) (by rfl) (da_cons (de_var 3) da_nil))))
  (db_one (ds_raise0 cc h.e_NoPair (by rfl)))
  db_nil)))
  (db_cons (ds_expr (de_callD (ok_check_pressure h) cc (by decide) (by rfl) (da_cons (de_var 2) da_nil)))
  (db_one (ds_ret (de_callB call_abs ok_abs (by rfl) h.z_abs bb_abs (da_cons (de_bin op_sub ok_sub (de_callD (ok_raw_true h) cc (by decide) (by rfl) (da_cons (de_ix (j := 0) (de_var 0) de_int) (da_cons (de_var 2) (da_cons (de_ix (j := 0) (de_var 0) de_int) da_nil)))) (de_callD (ok_raw_true h) cc (by decide) (by rfl) (da_cons (de_ix (j := 0) (de_var 1) de_int) (da_cons (de_var 2) (da_cons (de_ix (j := 0) (de_var 1) de_int) da_nil))))) da_nil))))))
theorem bi_between (kV doc pm : Value) (an : Option Addr) (cdv ct : Value) (us : List Value) (hl : us.length = 3) : bindArgs (PySem.W.fnOf "between" "between" (defArgs s_between) (defBody s_between) (defScope s_between) .none kV doc pm an cdv ct) ⟨us, []⟩ = pure ((["one", "other", "pressure"] : List Str).zip us) := match us, hl with | [_, _, _], _ => rfl
theorem ok_between {P : Program} {w : World} {K : PySem.W.Frag} {mg : Str → Option Value} {base : Heap} (h : Hd τ K mg base) : DefOk τ P w K mg base 5 3 "between" g_between :=
  def_ok (b := b_between) (N := N_between) (ps := ["one", "other", "pressure"]) (st := s_between) h.d_between sc_between rfl bi_between (bd_between h)
abbrev N_check_pairs : List Str := ["pairs", "one"]
theorem sc_check_pairs : FnScope N_check_pairs ["pairs"] (defScope s_check_pairs) := ⟨rfl, rfl, rfl, by decide +kernel, rfl, by decide +kernel, by decide +kernel⟩
noncomputable def l0_check_pairs : Ev := (eCallN 1 g_is_pair (aCons (eVar 1) aNil))
noncomputable def b_check_pairs : Sv := (sIf (tOr (tNot (tOf (eCall fIsi (aCons (eVar 0) (aCons (eTy .tup) aNil))))) (tOr (tNot (tOf (eChain oLe oLe (eD (.int 1)) (eCall fLen (aCons (eVar 0) aNil)) (eD (.int 12))))) (tNot (tOf (eCall fAll (aCons (eLc false (iSeq (eVar 0)) (gN 1) tYesD l0_check_pairs [1]) aNil))))))
  (sRaise "NoPairs")
  sNil)
noncomputable def g_check_pairs : Fn := fnOf 2 b_check_pairs
theorem bd_check_pairs {P : Program} {w : World} {K : PySem.W.Frag} {mg : Str → Option Value} {base : Heap} (h : Hd τ K mg base) (f : Addr) (cdv : Value) (B : Around) (fs : List PySem.Env) (s : Shared) (H : Hp) (E : XK) (cc : Cc (cxD P w K mg base N_check_pairs "check_pairs" s_check_pairs f cdv B fs s H E) (wD E) 4) : DB τ (cxD P w K mg base N_check_pairs "check_pairs" s_check_pairs f cdv B fs s H E) (wD E) (defBody s_check_pairs) b_check_pairs :=
  (db_one (ds_if (DW.t (dw_or (dt_not (dt_val (de_callB call_isiX ok_isi (by rfl) h.z_isinstance bb_isinstance (da_cons (de_var 0) (da_cons (de_ty (T := .tup) (by rfl) h.z_tuple bb_tuple) da_nil))))) (dw_or (dt_not (dt_chain (op_leX cc.hu) ok_le (op_leX cc.hu) ok_le de_int (de_callB call_lenX ok_len (by rfl) h.z_len bb_len (da_cons (de_var 0) da_nil)) (de_conI h.c_MOST_PAIRS (by rfl)))) (dw_or1 (dt_not (dt_val (de_callB (call_allX cc.calm) ok_allF (by rfl) h.z_all bb_all (da_cons (de_lc false cc (di_seq (de_var 0)) (blkOk_by (N := N_check_pairs) (sc := defScope s_check_pairs) (own := [("one", 1)]) (by decide +kernel)) (fun _ _ _ _ _ => (dg_name 1 cc.blk.nd rfl (.inl rfl))) (fun _ _ _ _ _ => dts_nil) (fun _ _ _ _ _ => (de_callD (ok_is_pair h) cc.blk (by decide) (by rfl) (da_cons (de_var 1) da_nil)))) da_nil))))))))
  (db_one (ds_raise0 cc h.e_NoPairs (by rfl)))
  db_nil))
theorem bi_check_pairs (kV doc pm : Value) (an : Option Addr) (cdv ct : Value) (us : List Value) (hl : us.length = 1) : bindArgs (PySem.W.fnOf "check_pairs" "check_pairs" (defArgs s_check_pairs) (defBody s_check_pairs) (defScope s_check_pairs) .none kV doc pm an cdv ct) ⟨us, []⟩ = pure ((["pairs"] : List Str).zip us) := match us, hl with | [_], _ => rfl
theorem ok_check_pairs {P : Program} {w : World} {K : PySem.W.Frag} {mg : Str → Option Value} {base : Heap} (h : Hd τ K mg base) : DefOk τ P w K mg base 5 1 "check_pairs" g_check_pairs :=
  def_ok (b := b_check_pairs) (N := N_check_pairs) (ps := ["pairs"]) (st := s_check_pairs) h.d_check_pairs sc_check_pairs rfl bi_check_pairs (bd_check_pairs h)
abbrev N_level_of : List Str := ["pair"]
theorem sc_level_of : FnScope N_level_of ["pair"] (defScope s_level_of) := ⟨rfl, rfl, rfl, by decide +kernel, rfl, by decide +kernel, by decide +kernel⟩
noncomputable def b_level_of : Sv := (sRet (eCallN 3 g_raw_true (aCons (eBin oIx (eVar 0) (eD (.int 0))) (aCons (eD (.int 1013)) (aCons (eBin oIx (eVar 0) (eD (.int 1))) aNil)))))
noncomputable def g_level_of : Fn := fnOf 1 b_level_of
theorem bd_level_of {P : Program} {w : World} {K : PySem.W.Frag} {mg : Str → Option Value} {base : Heap} (h : Hd τ K mg base) (f : Addr) (cdv : Value) (B : Around) (fs : List PySem.Env) (s : Shared) (H : Hp) (E : XK) (cc : Cc (cxD P w K mg base N_level_of "level_of" s_level_of f cdv B fs s H E) (wD E) 1) : DB τ (cxD P w K mg base N_level_of "level_of" s_level_of f cdv B fs s H E) (wD E) (defBody s_level_of) b_level_of :=
  (db_one (ds_ret (de_callD (ok_raw_true h) cc (by decide) (by rfl) (da_cons (de_ix (j := 0) (de_var 0) de_int) (da_cons (de_conI h.c_PLAIN (by rfl)) (da_cons (de_ix (j := 0) (de_var 0) de_int) da_nil))))))
theorem bi_level_of (kV doc pm : Value) (an : Option Addr) (cdv ct : Value) (us : List Value) (hl : us.length = 1) : bindArgs (PySem.W.fnOf "level_of" "level_of" (defArgs s_level_of) (defBody s_level_of) (defScope s_level_of) .none kV doc pm an cdv ct) ⟨us, []⟩ = pure ((["pair"] : List Str).zip us) := match us, hl with | [_], _ => rfl
theorem ok_level_of {P : Program} {w : World} {K : PySem.W.Frag} {mg : Str → Option Value} {base : Heap} (h : Hd τ K mg base) : DefOk τ P w K mg base 2 1 "level_of" g_level_of :=
  def_ok (b := b_level_of) (N := N_level_of) (ps := ["pair"]) (st := s_level_of) h.d_level_of sc_level_of rfl bi_level_of (bd_level_of h)
abbrev N_raw_apart : List Str := ["pairs", "found", "i", "one", "j"]
theorem sc_raw_apart : FnScope N_raw_apart ["pairs"] (defScope s_raw_apart) := ⟨rfl, rfl, rfl, by decide +kernel, rfl, by decide +kernel, by decide +kernel⟩
noncomputable def l0_raw_apart : Ev := (eTup (aCons (eCall fAbs (aCons (eBin oSub (eCallN 1 g_level_of (aCons (eVar 3) aNil)) (eCallN 1 g_level_of (aCons (eBin oIx (eVar 0) (eVar 4)) aNil))) aNil)) (aCons (eVar 2) (aCons (eVar 4) aNil))))
noncomputable def l1_raw_apart : Sv := (sExpr (eExt (eVar 1) (eLc false (iRange (aCons (eBin (oAdd false) (eVar 2) (eD (.int 1))) (aCons (eCall fLen (aCons (eVar 0) aNil)) aNil))) (gN 4) tYesD l0_raw_apart [4])))
noncomputable def b_raw_apart : Sv := (sCons (sSet 1 (eLst true aNil))
  (sCons (sFor (iEnumD (eVar 0)) (gT [(gN 2), (gN 3)]) l1_raw_apart)
  (sRet (eCall (fSortL false) (aCons (eVar 1) aNil)))))
noncomputable def g_raw_apart : Fn := fnOf 5 b_raw_apart
theorem bd_raw_apart {P : Program} {w : World} {K : PySem.W.Frag} {mg : Str → Option Value} {base : Heap} (h : Hd τ K mg base) (f : Addr) (cdv : Value) (B : Around) (fs : List PySem.Env) (s : Shared) (H : Hp) (E : XK) (cc : Cc (cxD P w K mg base N_raw_apart "raw_apart" s_raw_apart f cdv B fs s H E) (wD E) 2) : DB τ (cxD P w K mg base N_raw_apart "raw_apart" s_raw_apart f cdv B fs s H E) (wD E) (defBody s_raw_apart) b_raw_apart :=
  (db_cons (ds_set 1 cc.nd rfl (.inl rfl) (de_lst true da_nil))
  (db_cons (ds_for cc (di_enum (by rfl) h.z_enumerate (da_cons (de_var 0) da_nil)) (dg_tup cc.calm (dgs_cons (dg_name 2 cc.nd rfl (.inr rfl)) (dgs_cons (dg_name 3 cc.nd rfl (.inr rfl)) dgs_nil)))
  (db_one (ds_expr (de_extend (de_var 1) (da_cons (de_lc false cc (di_range2 (by rfl) h.z_range (da_cons (de_bin op_addX ok_add (de_var 2) de_int) (da_cons (de_callB call_lenX ok_len (by rfl) h.z_len bb_len (da_cons (de_var 0) da_nil)) da_nil))) (blkOk_by (N := N_raw_apart) (sc := defScope s_raw_apart) (own := [("j", 4)]) (by decide +kernel)) (fun _ _ _ _ _ => (dg_name 4 cc.blk.nd rfl (.inl rfl))) (fun _ _ _ _ _ => dts_nil) (fun _ _ _ _ _ => (de_tup (da_cons (de_callB call_abs ok_abs (by rfl) h.z_abs bb_abs (da_cons (de_bin op_sub ok_sub (de_callD (ok_level_of h) cc.blk (by decide) (by rfl) (da_cons (de_var 3) da_nil)) (de_callD (ok_level_of h) cc.blk (by decide) (by rfl) (da_cons (de_ix (j := 0) (de_var 0) (de_var 4)) da_nil))) da_nil)) (da_cons (de_var 2) (da_cons (de_var 4) da_nil)))))) da_nil)))))
  (db_one (ds_ret (de_callB (call_sortL cc.hu) ok_sortL (by rfl) h.z_sorted bb_sorted (da_cons (de_var 1) da_nil))))))
theorem bi_raw_apart (kV doc pm : Value) (an : Option Addr) (cdv ct : Value) (us : List Value) (hl : us.length = 1) : bindArgs (PySem.W.fnOf "raw_apart" "raw_apart" (defArgs s_raw_apart) (defBody s_raw_apart) (defScope s_raw_apart) .none kV doc pm an cdv ct) ⟨us, []⟩ = pure ((["pairs"] : List Str).zip us) := match us, hl with | [_], _ => rfl
theorem ok_raw_apart {P : Program} {w : World} {K : PySem.W.Frag} {mg : Str → Option Value} {base : Heap} (h : Hd τ K mg base) : DefOk τ P w K mg base 3 1 "raw_apart" g_raw_apart :=
  def_ok (b := b_raw_apart) (N := N_raw_apart) (ps := ["pairs"]) (st := s_raw_apart) h.d_raw_apart sc_raw_apart rfl bi_raw_apart (bd_raw_apart h)
abbrev N_kept_apart : List Str := ["pairs", "least", "far", "one", "other"]
theorem sc_kept_apart : FnScope N_kept_apart ["pairs", "least"] (defScope s_kept_apart) := ⟨rfl, rfl, rfl, by decide +kernel, rfl, by decide +kernel, by decide +kernel⟩
noncomputable def l0_kept_apart : Ev := (eBin oGe (eVar 2) (eVar 1))
noncomputable def b_kept_apart : Sv := (sCons (sExpr (eCallN 1 g_check_pairs (aCons (eVar 0) aNil)))
  (sCons (sIf (tNot (tOf (eCallN 3 g_is_within (aCons (eVar 1) (aCons (eD (.int 0)) (aCons (eBin oPow (eD (.int 10)) (eD (.int 40))) aNil))))))
  (sRaise "NoNumber")
  sNil)
  (sRet (eCall fAll (aCons (eLc false (iSeq (eCallN 1 g_raw_apart (aCons (eVar 0) aNil))) (gT [(gN 2), (gN 3), (gN 4)]) tYesD l0_kept_apart [2, 3, 4]) aNil)))))
noncomputable def g_kept_apart : Fn := fnOf 5 b_kept_apart
theorem bd_kept_apart {P : Program} {w : World} {K : PySem.W.Frag} {mg : Str → Option Value} {base : Heap} (h : Hd τ K mg base) (f : Addr) (cdv : Value) (B : Around) (fs : List PySem.Env) (s : Shared) (H : Hp) (E : XK) (cc : Cc (cxD P w K mg base N_kept_apart "kept_apart" s_kept_apart f cdv B fs s H E) (wD E) 5) : DB τ (cxD P w K mg base N_kept_apart "kept_apart" s_kept_apart f cdv B fs s H E) (wD E) (defBody s_kept_apart) b_kept_apart :=
  (db_cons (ds_expr (de_callD (ok_check_pairs h) cc (by decide) (by rfl) (da_cons (de_var 0) da_nil)))
  (db_cons (ds_if (dt_not (dt_val (de_callD (ok_is_within h) cc (by decide) (by rfl) (da_cons (de_var 1) (da_cons de_int (da_cons (de_bin op_pow ok_pow de_int de_int) da_nil))))))
  (db_one (ds_raise0 cc h.e_NoNumber (by rfl)))
  db_nil)
  (db_one (ds_ret (de_callB (call_allX cc.calm) ok_allF (by rfl) h.z_all bb_all (da_cons (de_lc false cc (di_seq (de_callD (ok_raw_apart h) cc (by decide) (by rfl) (da_cons (de_var 0) da_nil))) (blkOk_by (N := N_kept_apart) (sc := defScope s_kept_apart) (own := [("far", 2), ("one", 3), ("other", 4)]) (by decide +kernel)) (fun _ _ _ _ _ => (dg_tup cc.blk.calm (dgs_cons (dg_name 2 cc.blk.nd rfl (.inl rfl)) (dgs_cons (dg_name 3 cc.blk.nd rfl (.inl rfl)) (dgs_cons (dg_name 4 cc.blk.nd rfl (.inl rfl)) dgs_nil))))) (fun _ _ _ _ _ => dts_nil) (fun _ _ _ _ _ => (de_cmp (op_geX cc.blk.hu) ok_ge (de_var 2) (de_var 1) (nomark _)))) da_nil))))))
theorem bi_kept_apart (kV doc pm : Value) (an : Option Addr) (cdv ct : Value) (us : List Value) (hl : us.length = 2) : bindArgs (PySem.W.fnOf "kept_apart" "kept_apart" (defArgs s_kept_apart) (defBody s_kept_apart) (defScope s_kept_apart) .none kV doc pm an cdv ct) ⟨us, []⟩ = pure ((["pairs", "least"] : List Str).zip us) := match us, hl with | [_, _], _ => rfl
theorem ok_kept_apart {P : Program} {w : World} {K : PySem.W.Frag} {mg : Str → Option Value} {base : Heap} (h : Hd τ K mg base) : DefOk τ P w K mg base 6 2 "kept_apart" g_kept_apart :=
  def_ok (b := b_kept_apart) (N := N_kept_apart) (ps := ["pairs", "least"]) (st := s_kept_apart) h.d_kept_apart sc_kept_apart rfl bi_kept_apart (bd_kept_apart h)
abbrev N_nearest_two : List Str := ["pairs", "some"]
theorem sc_nearest_two : FnScope N_nearest_two ["pairs"] (defScope s_nearest_two) := ⟨rfl, rfl, rfl, by decide +kernel, rfl, by decide +kernel, by decide +kernel⟩
noncomputable def b_nearest_two : Sv := (sCons (sExpr (eCallN 1 g_check_pairs (aCons (eVar 0) aNil)))
  (sCons (sSet 1 (eCallN 1 g_raw_apart (aCons (eVar 0) aNil)))
  (sRet (eIf (tOf (eBin oGt (eCall fLen (aCons (eVar 1) aNil)) (eD (.int 0)))) (eSl false (eBin oIx (eVar 1) (eD (.int 0))) (pAt (eD (.int 1))) pNo) (eD .none)))))
noncomputable def g_nearest_two : Fn := fnOf 2 b_nearest_two
theorem bd_nearest_two {P : Program} {w : World} {K : PySem.W.Frag} {mg : Str → Option Value} {base : Heap} (h : Hd τ K mg base) (f : Addr) (cdv : Value) (B : Around) (fs : List PySem.Env) (s : Shared) (H : Hp) (E : XK) (cc : Cc (cxD P w K mg base N_nearest_two "nearest_two" s_nearest_two f cdv B fs s H E) (wD E) 5) : DB τ (cxD P w K mg base N_nearest_two "nearest_two" s_nearest_two f cdv B fs s H E) (wD E) (defBody s_nearest_two) b_nearest_two :=
  (db_cons (ds_expr (de_callD (ok_check_pairs h) cc (by decide) (by rfl) (da_cons (de_var 0) da_nil)))
  (db_cons (ds_set 1 cc.nd rfl (.inl rfl) (de_callD (ok_raw_apart h) cc (by decide) (by rfl) (da_cons (de_var 0) da_nil)))
  (db_one (ds_ret (de_if (dt_cmp (op_gtX cc.hu) ok_gt (de_callB call_lenX ok_len (by rfl) h.z_len bb_len (da_cons (de_var 1) da_nil)) de_int (nomark _)) (de_sl false (de_ix (j := 0) (de_var 1) de_int) (dp_at de_int) dp_no) de_non)))))
theorem bi_nearest_two (kV doc pm : Value) (an : Option Addr) (cdv ct : Value) (us : List Value) (hl : us.length = 1) : bindArgs (PySem.W.fnOf "nearest_two" "nearest_two" (defArgs s_nearest_two) (defBody s_nearest_two) (defScope s_nearest_two) .none kV doc pm an cdv ct) ⟨us, []⟩ = pure ((["pairs"] : List Str).zip us) := match us, hl with | [_], _ => rfl
theorem ok_nearest_two {P : Program} {w : World} {K : PySem.W.Frag} {mg : Str → Option Value} {base : Heap} (h : Hd τ K mg base) : DefOk τ P w K mg base 6 1 "nearest_two" g_nearest_two :=
  def_ok (b := b_nearest_two) (N := N_nearest_two) (ps := ["pairs"]) (st := s_nearest_two) h.d_nearest_two sc_nearest_two rfl bi_nearest_two (bd_nearest_two h)
abbrev N_check_height : List Str := ["height"]
theorem sc_check_height : FnScope N_check_height ["height"] (defScope s_check_height) := ⟨rfl, rfl, rfl, by decide +kernel, rfl, by decide +kernel, by decide +kernel⟩
noncomputable def b_check_height : Sv := (sIf (tNot (tOf (eCallN 3 g_is_within (aCons (eVar 0) (aCons (eUn oNeg (eD (.int 60000))) (aCons (eD (.int 60000)) aNil))))))
  (sRaise "NoNumber")
  sNil)
noncomputable def g_check_height : Fn := fnOf 1 b_check_height
theorem bd_check_height {P : Program} {w : World} {K : PySem.W.Frag} {mg : Str → Option Value} {base : Heap} (h : Hd τ K mg base) (f : Addr) (cdv : Value) (B : Around) (fs : List PySem.Env) (s : Shared) (H : Hp) (E : XK) (cc : Cc (cxD P w K mg base N_check_height "check_height" s_check_height f cdv B fs s H E) (wD E) 2) : DB τ (cxD P w K mg base N_check_height "check_height" s_check_height f cdv B fs s H E) (wD E) (defBody s_check_height) b_check_height :=
  (db_one (ds_if (dt_not (dt_val (de_callD (ok_is_within h) cc (by decide) (by rfl) (da_cons (de_var 0) (da_cons (de_un un_neg ok_neg (de_conI h.c_MOST_HEIGHT (by rfl))) (da_cons (de_conI h.c_MOST_HEIGHT (by rfl)) da_nil))))))
  (db_one (ds_raise0 cc h.e_NoNumber (by rfl)))
  db_nil))
theorem bi_check_height (kV doc pm : Value) (an : Option Addr) (cdv ct : Value) (us : List Value) (hl : us.length = 1) : bindArgs (PySem.W.fnOf "check_height" "check_height" (defArgs s_check_height) (defBody s_check_height) (defScope s_check_height) .none kV doc pm an cdv ct) ⟨us, []⟩ = pure ((["height"] : List Str).zip us) := match us, hl with | [_], _ => rfl
theorem ok_check_height {P : Program} {w : World} {K : PySem.W.Frag} {mg : Str → Option Value} {base : Heap} (h : Hd τ K mg base) : DefOk τ P w K mg base 3 1 "check_height" g_check_height :=
  def_ok (b := b_check_height) (N := N_check_height) (ps := ["height"]) (st := s_check_height) h.d_check_height sc_check_height rfl bi_check_height (bd_check_height h)
abbrev N_raw_level : List Str := ["level", "pressure"]
theorem sc_raw_level : FnScope N_raw_level ["level", "pressure"] (defScope s_raw_level) := ⟨rfl, rfl, rfl, by decide +kernel, rfl, by decide +kernel, by decide +kernel⟩
noncomputable def b_raw_level : Sv := (sRet (eCallN 3 g_raw_true (aCons (eBin (oMul false) (eD (.int 100)) (eVar 0)) (aCons (eVar 1) (aCons (eD (.int 1013)) aNil)))))
noncomputable def g_raw_level : Fn := fnOf 2 b_raw_level
theorem bd_raw_level {P : Program} {w : World} {K : PySem.W.Frag} {mg : Str → Option Value} {base : Heap} (h : Hd τ K mg base) (f : Addr) (cdv : Value) (B : Around) (fs : List PySem.Env) (s : Shared) (H : Hp) (E : XK) (cc : Cc (cxD P w K mg base N_raw_level "raw_level" s_raw_level f cdv B fs s H E) (wD E) 1) : DB τ (cxD P w K mg base N_raw_level "raw_level" s_raw_level f cdv B fs s H E) (wD E) (defBody s_raw_level) b_raw_level :=
  (db_one (ds_ret (de_callD (ok_raw_true h) cc (by decide) (by rfl) (da_cons (de_bin op_mulX' ok_mul de_int (de_var 0)) (da_cons (de_var 1) (da_cons (de_conI h.c_PLAIN (by rfl)) da_nil))))))
theorem bi_raw_level (kV doc pm : Value) (an : Option Addr) (cdv ct : Value) (us : List Value) (hl : us.length = 2) : bindArgs (PySem.W.fnOf "raw_level" "raw_level" (defArgs s_raw_level) (defBody s_raw_level) (defScope s_raw_level) .none kV doc pm an cdv ct) ⟨us, []⟩ = pure ((["level", "pressure"] : List Str).zip us) := match us, hl with | [_, _], _ => rfl
theorem ok_raw_level {P : Program} {w : World} {K : PySem.W.Frag} {mg : Str → Option Value} {base : Heap} (h : Hd τ K mg base) : DefOk τ P w K mg base 2 2 "raw_level" g_raw_level :=
  def_ok (b := b_raw_level) (N := N_raw_level) (ps := ["level", "pressure"]) (st := s_raw_level) h.d_raw_level sc_raw_level rfl bi_raw_level (bd_raw_level h)
abbrev N_clear_levels : List Str := ["pressure", "low", "high", "step", "level"]
theorem sc_clear_levels : FnScope N_clear_levels ["pressure", "low", "high", "step"] (defScope s_clear_levels) := ⟨rfl, rfl, rfl, by decide +kernel, rfl, by decide +kernel, by decide +kernel⟩
noncomputable def l0_clear_levels : Ev := (eVar 4)
noncomputable def l1_clear_levels : Tv := (tOf (eChain oLe oLe (eVar 1) (eCallN 2 g_raw_level (aCons (eVar 4) (aCons (eVar 0) aNil))) (eVar 2)))
noncomputable def b_clear_levels : Sv := (sCons (sExpr (eCallN 1 g_check_pressure (aCons (eVar 0) aNil)))
  (sCons (sExpr (eCallN 1 g_check_height (aCons (eVar 1) aNil)))
  (sCons (sExpr (eCallN 1 g_check_height (aCons (eVar 2) aNil)))
  (sCons (sIf (tNot (tOf (eCallN 3 g_is_within (aCons (eVar 3) (aCons (eD (.int 5)) (aCons (eD (.int 100)) aNil))))))
  (sRaise "NoNumber")
  sNil)
  (sRet (eCall fTuple (aCons (eLc false (iRangeC (aCons (eD (.int 0)) (aCons (eBin (oAdd false) (eD (.int 500)) (eD (.int 1))) (aCons (eVar 3) aNil)))) (gN 4) l1_clear_levels l0_clear_levels [4]) aNil)))))))
noncomputable def g_clear_levels : Fn := fnOf 5 b_clear_levels
theorem bd_clear_levels {P : Program} {w : World} {K : PySem.W.Frag} {mg : Str → Option Value} {base : Heap} (h : Hd τ K mg base) (f : Addr) (cdv : Value) (B : Around) (fs : List PySem.Env) (s : Shared) (H : Hp) (E : XK) (cc : Cc (cxD P w K mg base N_clear_levels "clear_levels" s_clear_levels f cdv B fs s H E) (wD E) 4) : DB τ (cxD P w K mg base N_clear_levels "clear_levels" s_clear_levels f cdv B fs s H E) (wD E) (defBody s_clear_levels) b_clear_levels :=
  (db_cons (ds_expr (de_callD (ok_check_pressure h) cc (by decide) (by rfl) (da_cons (de_var 0) da_nil)))
  (db_cons (ds_expr (de_callD (ok_check_height h) cc (by decide) (by rfl) (da_cons (de_var 1) da_nil)))
  (db_cons (ds_expr (de_callD (ok_check_height h) cc (by decide) (by rfl) (da_cons (de_var 2) da_nil)))
  (db_cons (ds_if (dt_not (dt_val (de_callD (ok_is_within h) cc (by decide) (by rfl) (da_cons (de_var 3) (da_cons de_int (da_cons de_int da_nil))))))
  (db_one (ds_raise0 cc h.e_NoNumber (by rfl)))
  db_nil)
  (db_one (ds_ret (de_callTy call_tuple_of ok_tuple (by rfl) h.z_tuple bb_tuple (da_cons (de_lc false cc (di_range3 (by rfl) h.z_range (da_cons de_int (da_cons (de_bin op_addX ok_add (de_conI h.c_MOST_LEVEL (by rfl)) de_int) (da_cons (de_var 3) da_nil)))) (blkOk_by (N := N_clear_levels) (sc := defScope s_clear_levels) (own := [("level", 4)]) (by decide +kernel)) (fun _ _ _ _ _ => (dg_name 4 cc.blk.nd rfl (.inl rfl))) (fun _ _ _ _ _ => (dts_one (dt_chain (op_leX cc.blk.hu) ok_le (op_leX cc.blk.hu) ok_le (de_var 1) (de_callD (ok_raw_level h) cc.blk (by decide) (by rfl) (da_cons (de_var 4) (da_cons (de_var 0) da_nil))) (de_var 2)))) (fun _ _ _ _ _ => (de_var 4))) da_nil))))))))
theorem bi_clear_levels (kV doc pm : Value) (an : Option Addr) (cdv ct : Value) (us : List Value) (hl : us.length = 4) : bindArgs (PySem.W.fnOf "clear_levels" "clear_levels" (defArgs s_clear_levels) (defBody s_clear_levels) (defScope s_clear_levels) .none kV doc pm an cdv ct) ⟨us, []⟩ = pure ((["pressure", "low", "high", "step"] : List Str).zip us) := match us, hl with | [_, _, _, _], _ => rfl
theorem ok_clear_levels {P : Program} {w : World} {K : PySem.W.Frag} {mg : Str → Option Value} {base : Heap} (h : Hd τ K mg base) : DefOk τ P w K mg base 5 4 "clear_levels" g_clear_levels :=
  def_ok (b := b_clear_levels) (N := N_clear_levels) (ps := ["pressure", "low", "high", "step"]) (st := s_clear_levels) h.d_clear_levels sc_clear_levels rfl bi_clear_levels (bd_clear_levels h)
abbrev N__law_draw : List Str := ["hand", "size", "cell", "digit", "number"]
theorem sc__law_draw : FnScope N__law_draw ["hand", "size"] (defScope s__law_draw) := ⟨rfl, rfl, rfl, by decide +kernel, rfl, by decide +kernel, by decide +kernel⟩
noncomputable def b__law_draw : Sv := (sCons (sIf (tAnd (tOf (eBin oEq (eBin oIx (eVar 0) (eD (.int 2))) (eD (.int 0)))) (tOf (eBin oLt (eBin oIx (eVar 0) (eD (.int 1))) (eCall fLen (aCons (eBin oIx (eVar 0) (eD (.int 0))) aNil)))))
  (sCons (sSet 2 (eBin oIx (eBin oIx (eVar 0) (eD (.int 0))) (eBin oIx (eVar 0) (eD (.int 1)))))
  (sCons (sPut (eVar 0) (eD (.int 1)) (eBin (oAdd false) (eBin oIx (eVar 0) (eD (.int 1))) (eD (.int 1))))
  (sCons (sPut (eVar 0) (eD (.int 3)) (eBin oMod (eCall fInt (aCons (eBin (oAdd false) (eBin (oAdd false) (eBin (oMul false) (eBin oIx (eVar 0) (eD (.int 3))) (eD (.int 69621))) (eBin (oMul false) (eVar 2) (eD (.int 40692)))) (eD (.int 29))) aNil)) (eD (.int 2147483629))))
  (sIf (tOf (eBin oGe (eVar 2) (eBin oPow (eD (.int 10)) (eD (.int 18)))))
  (sPut (eVar 0) (eD (.int 2)) (eVar 2))
  sNil))))
  sNil)
  (sCons (sIf (tOf (eBin oGt (eBin oIx (eVar 0) (eD (.int 2))) (eD (.int 0))))
  (sCons (sSet 3 (eBin oMod (eCall fInt (aCons (eBin oIx (eVar 0) (eD (.int 2))) aNil)) (eVar 1)))
  (sCons (sPut (eVar 0) (eD (.int 2)) (eBin oDiv (eBin oIx (eVar 0) (eD (.int 2))) (eVar 1)))
  (sRet (eVar 3))))
  sNil)
  (sCons (sPut (eVar 0) (eD (.int 4)) (eBin (oAdd false) (eBin oIx (eVar 0) (eD (.int 4))) (eD (.int 1))))
  (sCons (sSet 4 (eBin oMod (eCall fInt (aCons (eBin (oMul false) (eCall fInt (aCons (eBin (oAdd false) (eBin oIx (eVar 0) (eD (.int 3))) (eBin (oMul false) (eD (.int 7919)) (eBin oIx (eVar 0) (eD (.int 4))))) aNil)) (eD (.int 48271))) aNil)) (eD (.int 2147483647))))
  (sCons (sSet 4 (eBin oMod (eCall fInt (aCons (eBin (oMul false) (eVar 4) (eBin (oAdd false) (eBin oDiv (eVar 4) (eD (.int 1009))) (eD (.int 69621)))) aNil)) (eD (.int 2147483647))))
  (sCons (sSet 4 (eBin oMod (eCall fInt (aCons (eBin (oMul false) (eVar 4) (eBin (oAdd false) (eBin oDiv (eVar 4) (eD (.int 2003))) (eD (.int 40014)))) aNil)) (eD (.int 2147483563))))
  (sRet (eBin oMod (eCall fInt (aCons (eBin oDiv (eVar 4) (eD (.int 16))) aNil)) (eVar 1)))))))))
noncomputable def g__law_draw : Fn := fnOf 5 b__law_draw
theorem bd__law_draw {P : Program} {w : World} {K : PySem.W.Frag} {mg : Str → Option Value} {base : Heap} (h : Hd τ K mg base) (f : Addr) (cdv : Value) (B : Around) (fs : List PySem.Env) (s : Shared) (H : Hp) (E : XK) (cc : Cc (cxD P w K mg base N__law_draw "_law_draw" s__law_draw f cdv B fs s H E) (wD E) 0) : DB τ (cxD P w K mg base N__law_draw "_law_draw" s__law_draw f cdv B fs s H E) (wD E) (defBody s__law_draw) b__law_draw :=
  (db_cons (ds_if (DW.t (dw_and (dt_cmp (op_eqX cc.hu) ok_eq (de_ix (j := 0) (de_var 0) de_int) de_int (nomark _)) (dw_one (dt_cmp (op_ltX cc.hu) ok_lt (de_ix (j := 0) (de_var 0) de_int) (de_callB call_lenX ok_len (by rfl) h.z_len bb_len (da_cons (de_ix (j := 0) (de_var 0) de_int) da_nil)) (nomark _)))))
  (db_cons (ds_set 2 cc.nd rfl (.inl rfl) (de_ix (j := 0) (de_ix (j := 0) (de_var 0) de_int) (de_ix (j := 0) (de_var 0) de_int)))
  (db_cons (ds_put (de_var 0) de_int (de_bin op_addX ok_add (de_ix (j := 0) (de_var 0) de_int) de_int))
  (db_cons (ds_put (de_var 0) de_int (de_bin op_modX ok_mod (de_callTy call_int1 ok_int (by rfl) h.z_int bb_int (da_cons (de_bin op_addX ok_add (de_bin op_addX ok_add (de_bin op_mulX' ok_mul (de_ix (j := 0) (de_var 0) de_int) de_int) (de_bin op_mulX' ok_mul (de_var 2) de_int)) de_int) da_nil)) de_int))
  (db_one (ds_if (dt_cmp (op_geX cc.hu) ok_ge (de_var 2) (de_bin op_pow ok_pow de_int de_int) (nomark _))
  (db_one (ds_put (de_var 0) de_int (de_var 2)))
  db_nil)))))
  db_nil)
  (db_cons (ds_if (dt_cmp (op_gtX cc.hu) ok_gt (de_ix (j := 0) (de_var 0) de_int) de_int (nomark _))
  (db_cons (ds_set 3 cc.nd rfl (.inl rfl) (de_bin op_modX ok_mod (de_callTy call_int1 ok_int (by rfl) h.z_int bb_int (da_cons (de_ix (j := 0) (de_var 0) de_int) da_nil)) (de_var 1)))
  (db_cons (ds_put (de_var 0) de_int (de_bin op_divX ok_div (de_ix (j := 0) (de_var 0) de_int) (de_var 1)))
  (db_one (ds_ret (de_var 3)))))
  db_nil)
  (db_cons (ds_put (de_var 0) de_int (de_bin op_addX ok_add (de_ix (j := 0) (de_var 0) de_int) de_int))
  (db_cons (ds_set 4 cc.nd rfl (.inl rfl) (de_bin op_modX ok_mod (de_callTy call_int1 ok_int (by rfl) h.z_int bb_int (da_cons (de_bin op_mulX' ok_mul (de_callTy call_int1 ok_int (by rfl) h.z_int bb_int (da_cons (de_bin op_addX ok_add (de_ix (j := 0) (de_var 0) de_int) (de_bin op_mulX' ok_mul de_int (de_ix (j := 0) (de_var 0) de_int))) da_nil)) de_int) da_nil)) de_int))
  (db_cons (ds_set 4 cc.nd rfl (.inl rfl) (de_bin op_modX ok_mod (de_callTy call_int1 ok_int (by rfl) h.z_int bb_int (da_cons (de_bin op_mulX' ok_mul (de_var 4) (de_bin op_addX ok_add (de_bin op_divX ok_div (de_var 4) de_int) de_int)) da_nil)) de_int))
  (db_cons (ds_set 4 cc.nd rfl (.inl rfl) (de_bin op_modX ok_mod (de_callTy call_int1 ok_int (by rfl) h.z_int bb_int (da_cons (de_bin op_mulX' ok_mul (de_var 4) (de_bin op_addX ok_add (de_bin op_divX ok_div (de_var 4) de_int) de_int)) da_nil)) de_int))
  (db_one (ds_ret (de_bin op_modX ok_mod (de_callTy call_int1 ok_int (by rfl) h.z_int bb_int (da_cons (de_bin op_divX ok_div (de_var 4) de_int) da_nil)) (de_var 1))))))))))
theorem bi__law_draw (kV doc pm : Value) (an : Option Addr) (cdv ct : Value) (us : List Value) (hl : us.length = 2) : bindArgs (PySem.W.fnOf "_law_draw" "_law_draw" (defArgs s__law_draw) (defBody s__law_draw) (defScope s__law_draw) .none kV doc pm an cdv ct) ⟨us, []⟩ = pure ((["hand", "size"] : List Str).zip us) := match us, hl with | [_, _], _ => rfl
theorem ok__law_draw {P : Program} {w : World} {K : PySem.W.Frag} {mg : Str → Option Value} {base : Heap} (h : Hd τ K mg base) : DefOk τ P w K mg base 1 2 "_law_draw" g__law_draw :=
  def_ok (b := b__law_draw) (N := N__law_draw) (ps := ["hand", "size"]) (st := s__law_draw) h.d__law_draw sc__law_draw rfl bi__law_draw (bd__law_draw h)
abbrev N__law_setting : List Str := ["hand"]
theorem sc__law_setting : FnScope N__law_setting ["hand"] (defScope s__law_setting) := ⟨rfl, rfl, rfl, by decide +kernel, rfl, by decide +kernel, by decide +kernel⟩
noncomputable def b__law_setting : Sv := (sRet (eBin (oAdd false) (eD (.int 900)) (eCallN 2 g__law_draw (aCons (eVar 0) (aCons (eD (.int 201)) aNil)))))
noncomputable def g__law_setting : Fn := fnOf 1 b__law_setting
theorem bd__law_setting {P : Program} {w : World} {K : PySem.W.Frag} {mg : Str → Option Value} {base : Heap} (h : Hd τ K mg base) (f : Addr) (cdv : Value) (B : Around) (fs : List PySem.Env) (s : Shared) (H : Hp) (E : XK) (cc : Cc (cxD P w K mg base N__law_setting "_law_setting" s__law_setting f cdv B fs s H E) (wD E) 1) : DB τ (cxD P w K mg base N__law_setting "_law_setting" s__law_setting f cdv B fs s H E) (wD E) (defBody s__law_setting) b__law_setting :=
  (db_one (ds_ret (de_bin op_addX ok_add de_int (de_callD (ok__law_draw h) cc (by decide) (by rfl) (da_cons (de_var 0) (da_cons de_int da_nil))))))
theorem bi__law_setting (kV doc pm : Value) (an : Option Addr) (cdv ct : Value) (us : List Value) (hl : us.length = 1) : bindArgs (PySem.W.fnOf "_law_setting" "_law_setting" (defArgs s__law_setting) (defBody s__law_setting) (defScope s__law_setting) .none kV doc pm an cdv ct) ⟨us, []⟩ = pure ((["hand"] : List Str).zip us) := match us, hl with | [_], _ => rfl
theorem ok__law_setting {P : Program} {w : World} {K : PySem.W.Frag} {mg : Str → Option Value} {base : Heap} (h : Hd τ K mg base) : DefOk τ P w K mg base 2 1 "_law_setting" g__law_setting :=
  def_ok (b := b__law_setting) (N := N__law_setting) (ps := ["hand"]) (st := s__law_setting) h.d__law_setting sc__law_setting rfl bi__law_setting (bd__law_setting h)
abbrev N__law_some : List Str := ["hand", "things"]
theorem sc__law_some : FnScope N__law_some ["hand", "things"] (defScope s__law_some) := ⟨rfl, rfl, rfl, by decide +kernel, rfl, by decide +kernel, by decide +kernel⟩
noncomputable def b__law_some : Sv := (sRet (eBin oIx (eVar 1) (eCallN 2 g__law_draw (aCons (eVar 0) (aCons (eCall fLen (aCons (eVar 1) aNil)) aNil)))))
noncomputable def g__law_some : Fn := fnOf 2 b__law_some
theorem bd__law_some {P : Program} {w : World} {K : PySem.W.Frag} {mg : Str → Option Value} {base : Heap} (h : Hd τ K mg base) (f : Addr) (cdv : Value) (B : Around) (fs : List PySem.Env) (s : Shared) (H : Hp) (E : XK) (cc : Cc (cxD P w K mg base N__law_some "_law_some" s__law_some f cdv B fs s H E) (wD E) 1) : DB τ (cxD P w K mg base N__law_some "_law_some" s__law_some f cdv B fs s H E) (wD E) (defBody s__law_some) b__law_some :=
  (db_one (ds_ret (de_ix (j := 0) (de_var 1) (de_callD (ok__law_draw h) cc (by decide) (by rfl) (da_cons (de_var 0) (da_cons (de_callB call_lenX ok_len (by rfl) h.z_len bb_len (da_cons (de_var 1) da_nil)) da_nil))))))
theorem bi__law_some (kV doc pm : Value) (an : Option Addr) (cdv ct : Value) (us : List Value) (hl : us.length = 2) : bindArgs (PySem.W.fnOf "_law_some" "_law_some" (defArgs s__law_some) (defBody s__law_some) (defScope s__law_some) .none kV doc pm an cdv ct) ⟨us, []⟩ = pure ((["hand", "things"] : List Str).zip us) := match us, hl with | [_, _], _ => rfl
theorem ok__law_some {P : Program} {w : World} {K : PySem.W.Frag} {mg : Str → Option Value} {base : Heap} (h : Hd τ K mg base) : DefOk τ P w K mg base 2 2 "_law_some" g__law_some :=
  def_ok (b := b__law_some) (N := N__law_some) (ps := ["hand", "things"]) (st := s__law_some) h.d__law_some sc__law_some rfl bi__law_some (bd__law_some h)
abbrev N__law_height : List Str := ["hand", "tall"]
theorem sc__law_height : FnScope N__law_height ["hand"] (defScope s__law_height) := ⟨rfl, rfl, rfl, by decide +kernel, rfl, by decide +kernel, by decide +kernel⟩
noncomputable def b__law_height : Sv := (sCons (sSet 1 (eCallN 2 g__law_some (aCons (eVar 0) (aCons (eLst false (aCons (eD (.int 10)) (aCons (eD (.int 3000)) (aCons (eD (.int 60000)) aNil)))) aNil))))
  (sRet (eBin oSub (eCallN 2 g__law_draw (aCons (eVar 0) (aCons (eBin (oAdd false) (eBin (oMul false) (eD (.int 2)) (eVar 1)) (eD (.int 1))) aNil))) (eVar 1))))
noncomputable def g__law_height : Fn := fnOf 2 b__law_height
theorem bd__law_height {P : Program} {w : World} {K : PySem.W.Frag} {mg : Str → Option Value} {base : Heap} (h : Hd τ K mg base) (f : Addr) (cdv : Value) (B : Around) (fs : List PySem.Env) (s : Shared) (H : Hp) (E : XK) (cc : Cc (cxD P w K mg base N__law_height "_law_height" s__law_height f cdv B fs s H E) (wD E) 2) : DB τ (cxD P w K mg base N__law_height "_law_height" s__law_height f cdv B fs s H E) (wD E) (defBody s__law_height) b__law_height :=
  (db_cons (ds_set 1 cc.nd rfl (.inl rfl) (de_callD (ok__law_some h) cc (by decide) (by rfl) (da_cons (de_var 0) (da_cons (de_lst false (da_cons de_int (da_cons de_int (da_cons de_int da_nil)))) da_nil))))
  (db_one (ds_ret (de_bin op_sub ok_sub (de_callD (ok__law_draw h) cc (by decide) (by rfl) (da_cons (de_var 0) (da_cons (de_bin op_addX ok_add (de_bin op_mulX' ok_mul de_int (de_var 1)) de_int) da_nil))) (de_var 1)))))
theorem bi__law_height (kV doc pm : Value) (an : Option Addr) (cdv ct : Value) (us : List Value) (hl : us.length = 1) : bindArgs (PySem.W.fnOf "_law_height" "_law_height" (defArgs s__law_height) (defBody s__law_height) (defScope s__law_height) .none kV doc pm an cdv ct) ⟨us, []⟩ = pure ((["hand"] : List Str).zip us) := match us, hl with | [_], _ => rfl
theorem ok__law_height {P : Program} {w : World} {K : PySem.W.Frag} {mg : Str → Option Value} {base : Heap} (h : Hd τ K mg base) : DefOk τ P w K mg base 3 1 "_law_height" g__law_height :=
  def_ok (b := b__law_height) (N := N__law_height) (ps := ["hand"]) (st := s__law_height) h.d__law_height sc__law_height rfl bi__law_height (bd__law_height h)
abbrev N__law_true : List Str := ["pair", "pressure"]
theorem sc__law_true : FnScope N__law_true ["pair", "pressure"] (defScope s__law_true) := ⟨rfl, rfl, rfl, by decide +kernel, rfl, by decide +kernel, by decide +kernel⟩
noncomputable def b__law_true : Sv := (sRet (eBin oSub (eBin oIx (eVar 0) (eD (.int 0))) (eBin (oMul false) (eD (.int 30)) (eBin oSub (eBin oIx (eVar 0) (eD (.int 1))) (eVar 1)))))
noncomputable def g__law_true : Fn := fnOf 2 b__law_true
theorem bd__law_true {P : Program} {w : World} {K : PySem.W.Frag} {mg : Str → Option Value} {base : Heap} (h : Hd τ K mg base) (f : Addr) (cdv : Value) (B : Around) (fs : List PySem.Env) (s : Shared) (H : Hp) (E : XK) (cc : Cc (cxD P w K mg base N__law_true "_law_true" s__law_true f cdv B fs s H E) (wD E) 0) : DB τ (cxD P w K mg base N__law_true "_law_true" s__law_true f cdv B fs s H E) (wD E) (defBody s__law_true) b__law_true :=
  (db_one (ds_ret (de_bin op_sub ok_sub (de_ix (j := 0) (de_var 0) de_int) (de_bin op_mulX' ok_mul de_int (de_bin op_sub ok_sub (de_ix (j := 0) (de_var 0) de_int) (de_var 1))))))
theorem bi__law_true (kV doc pm : Value) (an : Option Addr) (cdv ct : Value) (us : List Value) (hl : us.length = 2) : bindArgs (PySem.W.fnOf "_law_true" "_law_true" (defArgs s__law_true) (defBody s__law_true) (defScope s__law_true) .none kV doc pm an cdv ct) ⟨us, []⟩ = pure ((["pair", "pressure"] : List Str).zip us) := match us, hl with | [_, _], _ => rfl
theorem ok__law_true {P : Program} {w : World} {K : PySem.W.Frag} {mg : Str → Option Value} {base : Heap} (h : Hd τ K mg base) : DefOk τ P w K mg base 1 2 "_law_true" g__law_true :=
  def_ok (b := b__law_true) (N := N__law_true) (ps := ["pair", "pressure"]) (st := s__law_true) h.d__law_true sc__law_true rfl bi__law_true (bd__law_true h)
abbrev N__law_is_right : List Str := ["hand", "pressure", "found", "base", "tall", "step", "setting", "pairs", "apart", "one", "other", "far_now", "first", "second", "least", "pair"]
theorem sc__law_is_right : FnScope N__law_is_right ["hand"] (defScope s__law_is_right) := ⟨rfl, rfl, rfl, by decide +kernel, rfl, by decide +kernel, by decide +kernel⟩
noncomputable def t0__law_is_right : Sv := (sPar [(gN 1), (gN 2)] (aCons (eCallN 1 g__law_setting (aCons (eVar 0) aNil)) (aCons (eLst true aNil) aNil)))
noncomputable def t1__law_is_right : Sv := (sPar [(gN 3), (gN 4)] (aCons (eBin oDiv (eCallN 1 g__law_height (aCons (eVar 0) aNil)) (eD (.int 2))) (aCons (eCallN 2 g__law_some (aCons (eVar 0) (aCons (eLst false (aCons (eD (.int 3)) (aCons (eD (.int 100)) (aCons (eD (.int 3000)) aNil)))) aNil))) aNil)))
noncomputable def l0__law_is_right : Sv := (sCons (sSet 6 (eCallN 2 g__law_some (aCons (eVar 0) (aCons (eLst false (aCons (eVar 1) (aCons (eD (.int 1000)) (aCons (eCallN 1 g__law_setting (aCons (eVar 0) aNil)) aNil)))) aNil))))
  (sExpr (eApp (eVar 2) (eTup (aCons (eBin (oAdd false) (eBin (oAdd false) (eVar 3) (eCallN 2 g__law_draw (aCons (eVar 0) (aCons (eVar 4) aNil)))) (eBin (oMul false) (eBin (oMul false) (eD (.int 30)) (eBin oSub (eVar 6) (eVar 1))) (eCallN 2 g__law_draw (aCons (eVar 0) (aCons (eD (.int 2)) aNil))))) (aCons (eVar 6) aNil))))))
noncomputable def t2__law_is_right : Sv := (sFor (iRange (aCons (eBin (oAdd false) (eD (.int 1)) (eCallN 2 g__law_draw (aCons (eVar 0) (aCons (eD (.int 7)) aNil)))) aNil)) (gN 5) l0__law_is_right)
noncomputable def t3__law_is_right : Sv := (sSet 7 (eCall fTuple (aCons (eVar 2) aNil)))
noncomputable def t4__law_is_right : Sv := (sSet 8 (eLst true aNil))
noncomputable def l1__law_is_right : Sv := (sExpr (eApp (eVar 8) (eTup (aCons (eCall fAbs (aCons (eBin oSub (eCallN 2 g__law_true (aCons (eBin oIx (eVar 7) (eVar 9)) (aCons (eVar 1) aNil))) (eCallN 2 g__law_true (aCons (eBin oIx (eVar 7) (eVar 10)) (aCons (eVar 1) aNil)))) aNil)) (aCons (eTup (aCons (eVar 9) (aCons (eVar 10) aNil))) aNil)))))
noncomputable def l2__law_is_right : Sv := (sFor (iRange (aCons (eBin (oAdd false) (eVar 9) (eD (.int 1))) (aCons (eCall fLen (aCons (eVar 7) aNil)) aNil))) (gN 10) l1__law_is_right)
noncomputable def t5__law_is_right : Sv := (sFor (iRange (aCons (eCall fLen (aCons (eVar 7) aNil)) aNil)) (gN 9) l2__law_is_right)
noncomputable def t6__law_is_right : Sv := (sIf (tOf (eBin oNe (eCall fReprX (aCons (eCallN 1 g_nearest_two (aCons (eVar 7) aNil)) aNil)) (eCall fReprX (aCons (eIf (tOf (eBin oGt (eCall fLen (aCons (eVar 8) aNil)) (eD (.int 0)))) (eBin oIx (eCall fMin1 (aCons (eVar 8) aNil)) (eD (.int 1))) (eD .none)) aNil))))
  (sRet (eD (.bool false)))
  sNil)
noncomputable def l3__law_is_right : Sv := (sCons (sPar [(gN 12), (gN 13)] (aCons (eBin oIx (eVar 7) (eVar 9)) (aCons (eBin oIx (eVar 7) (eVar 10)) aNil)))
  (sIf (tOf (eBin oNe (eCall fReprX (aCons (eLst false (aCons (eCallN 3 g_between (aCons (eVar 12) (aCons (eVar 13) (aCons (eVar 1) aNil)))) (aCons (eCallN 3 g_between (aCons (eVar 13) (aCons (eVar 12) (aCons (eVar 1) aNil)))) aNil))) aNil)) (eCall fReprX (aCons (eLst false (aCons (eVar 11) (aCons (eVar 11) aNil))) aNil))))
  (sRet (eD (.bool false)))
  sNil))
noncomputable def t7__law_is_right : Sv := (sFor (iSeq (eSl false (eVar 8) pNo (pAt (eD (.int 4))))) (gT [(gN 11), (gT [(gN 9), (gN 10)])]) l3__law_is_right)
noncomputable def l4__law_is_right : Ev := (eVar 11)
noncomputable def l5__law_is_right : Ev := (eBin oGe (eVar 11) (eVar 14))
noncomputable def l6__law_is_right : Sv := (sIf (tOf (eBin oNe (eCall fReprX (aCons (eCallN 2 g_kept_apart (aCons (eVar 7) (aCons (eVar 14) aNil))) aNil)) (eCall fReprX (aCons (eCall fAll (aCons (eLc false (iSeq (eVar 8)) (gT [(gN 11), (gN 15)]) tYesD l5__law_is_right [11, 15]) aNil)) aNil))))
  (sRet (eD (.bool false)))
  sNil)
noncomputable def t8__law_is_right : Sv := (sFor (iSeq (eBin (oAdd false) (eLst false (aCons (eD (.int 0)) (aCons (eD (.int 1)) (aCons (eCallN 2 g__law_draw (aCons (eVar 0) (aCons (eD (.int 300)) aNil))) aNil)))) (eLc false (iSeq (eSl false (eVar 8) pNo (pAt (eD (.int 2))))) (gT [(gN 11), (gN 15)]) tYesD l4__law_is_right [11, 15]))) (gN 14) l6__law_is_right)
noncomputable def t9__law_is_right : Sv := (sRet (eBin oEq (eCallN 3 g_between (aCons (eBin oIx (eVar 7) (eD (.int 0))) (aCons (eBin oIx (eVar 7) (eD (.int 0))) (aCons (eVar 1) aNil)))) (eD (.int 0))))
noncomputable def b__law_is_right : Sv := (sCons t0__law_is_right
  (sCons t1__law_is_right
  (sCons t2__law_is_right
  (sCons t3__law_is_right
  (sCons t4__law_is_right
  (sCons t5__law_is_right
  (sCons t6__law_is_right
  (sCons t7__law_is_right
  (sCons t8__law_is_right
  t9__law_is_right)))))))))
noncomputable def g__law_is_right : Fn := fnOf 16 b__law_is_right
theorem bd__law_is_right {P : Program} {w : World} {K : PySem.W.Frag} {mg : Str → Option Value} {base : Heap} (h : Hd τ K mg base) (f : Addr) (cdv : Value) (B : Around) (fs : List PySem.Env) (s : Shared) (H : Hp) (E : XK) (cc : Cc (cxD P w K mg base N__law_is_right "_law_is_right" s__law_is_right f cdv B fs s H E) (wD E) 6) : DB τ (cxD P w K mg base N__law_is_right "_law_is_right" s__law_is_right f cdv B fs s H E) (wD E) (defBody s__law_is_right) b__law_is_right :=
  (db_cons (ds_par2 1 2 cc.calm cc.nd rfl rfl (by decide) rfl rfl (da_cons (de_callD (ok__law_setting h) cc (by decide) (by rfl) (da_cons (de_var 0) da_nil)) (da_cons (de_lst true da_nil) da_nil)))
  (db_cons (ds_par2 3 4 cc.calm cc.nd rfl rfl (by decide) rfl rfl (da_cons (de_bin op_divX ok_div (de_callD (ok__law_height h) cc (by decide) (by rfl) (da_cons (de_var 0) da_nil)) de_int) (da_cons (de_callD (ok__law_some h) cc (by decide) (by rfl) (da_cons (de_var 0) (da_cons (de_lst false (da_cons de_int (da_cons de_int (da_cons de_int da_nil)))) da_nil))) da_nil)))
  (db_cons (ds_for cc (di_range1 (by rfl) h.z_range (da_cons (de_bin op_addX ok_add de_int (de_callD (ok__law_draw h) cc (by decide) (by rfl) (da_cons (de_var 0) (da_cons de_int da_nil)))) da_nil)) (dg_name 5 cc.nd rfl (.inl rfl))
  (db_cons (ds_set 6 cc.nd rfl (.inl rfl) (de_callD (ok__law_some h) cc (by decide) (by rfl) (da_cons (de_var 0) (da_cons (de_lst false (da_cons (de_var 1) (da_cons de_int (da_cons (de_callD (ok__law_setting h) cc (by decide) (by rfl) (da_cons (de_var 0) da_nil)) da_nil)))) da_nil))))
  (db_one (ds_expr (de_append (de_var 2) (da_cons (de_tup (da_cons (de_bin op_addX ok_add (de_bin op_addX ok_add (de_var 3) (de_callD (ok__law_draw h) cc (by decide) (by rfl) (da_cons (de_var 0) (da_cons (de_var 4) da_nil)))) (de_bin op_mulX' ok_mul (de_bin op_mulX' ok_mul de_int (de_bin op_sub ok_sub (de_var 6) (de_var 1))) (de_callD (ok__law_draw h) cc (by decide) (by rfl) (da_cons (de_var 0) (da_cons de_int da_nil))))) (da_cons (de_var 6) da_nil))) da_nil))))))
  (db_cons (ds_set 7 cc.nd rfl (.inl rfl) (de_callTy call_tuple_of ok_tuple (by rfl) h.z_tuple bb_tuple (da_cons (de_var 2) da_nil)))
  (db_cons (ds_set 8 cc.nd rfl (.inl rfl) (de_lst true da_nil))
  (db_cons (ds_for cc (di_range1 (by rfl) h.z_range (da_cons (de_callB call_lenX ok_len (by rfl) h.z_len bb_len (da_cons (de_var 7) da_nil)) da_nil)) (dg_name 9 cc.nd rfl (.inl rfl))
  (db_one (ds_for cc (di_range2 (by rfl) h.z_range (da_cons (de_bin op_addX ok_add (de_var 9) de_int) (da_cons (de_callB call_lenX ok_len (by rfl) h.z_len bb_len (da_cons (de_var 7) da_nil)) da_nil))) (dg_name 10 cc.nd rfl (.inl rfl))
  (db_one (ds_expr (de_append (de_var 8) (da_cons (de_tup (da_cons (de_callB call_abs ok_abs (by rfl) h.z_abs bb_abs (da_cons (de_bin op_sub ok_sub (de_callD (ok__law_true h) cc (by decide) (by rfl) (da_cons (de_ix (j := 0) (de_var 7) (de_var 9)) (da_cons (de_var 1) da_nil))) (de_callD (ok__law_true h) cc (by decide) (by rfl) (da_cons (de_ix (j := 0) (de_var 7) (de_var 10)) (da_cons (de_var 1) da_nil)))) da_nil)) (da_cons (de_tup (da_cons (de_var 9) (da_cons (de_var 10) da_nil))) da_nil))) da_nil)))))))
  (db_cons (ds_if (dt_cmp (op_neX cc.hu) ok_ne (de_callB (call_reprA cc.gd cc.hu) ok_reprX (by rfl) h.z_repr bb_repr (da_cons (de_callD (ok_nearest_two h) cc (by decide) (by rfl) (da_cons (de_var 7) da_nil)) da_nil)) (de_callB (call_reprA cc.gd cc.hu) ok_reprX (by rfl) h.z_repr bb_repr (da_cons (de_if (dt_cmp (op_gtX cc.hu) ok_gt (de_callB call_lenX ok_len (by rfl) h.z_len bb_len (da_cons (de_var 8) da_nil)) de_int (nomark _)) (de_ix (j := 0) (de_callB (call_min1X cc.calm cc.hu) ok_min1 (by rfl) h.z_min bb_min (da_cons (de_var 8) da_nil)) de_int) de_non) da_nil)) (nomark _))
  (db_one (ds_ret de_bl))
  db_nil)
  (db_cons (ds_for cc (di_seq (de_sl false (de_var 8) dp_no (dp_at de_int))) (dg_tup cc.calm (dgs_cons (dg_name 11 cc.nd rfl (.inl rfl)) (dgs_cons (dg_tup cc.calm (dgs_cons (dg_name 9 cc.nd rfl (.inl rfl)) (dgs_cons (dg_name 10 cc.nd rfl (.inl rfl)) dgs_nil))) dgs_nil)))
  (db_cons (ds_par2 12 13 cc.calm cc.nd rfl rfl (by decide) rfl rfl (da_cons (de_ix (j := 0) (de_var 7) (de_var 9)) (da_cons (de_ix (j := 0) (de_var 7) (de_var 10)) da_nil)))
  (db_one (ds_if (dt_cmp (op_neX cc.hu) ok_ne (de_callB (call_reprA cc.gd cc.hu) ok_reprX (by rfl) h.z_repr bb_repr (da_cons (de_lst false (da_cons (de_callD (ok_between h) cc (by decide) (by rfl) (da_cons (de_var 12) (da_cons (de_var 13) (da_cons (de_var 1) da_nil)))) (da_cons (de_callD (ok_between h) cc (by decide) (by rfl) (da_cons (de_var 13) (da_cons (de_var 12) (da_cons (de_var 1) da_nil)))) da_nil))) da_nil)) (de_callB (call_reprA cc.gd cc.hu) ok_reprX (by rfl) h.z_repr bb_repr (da_cons (de_lst false (da_cons (de_var 11) (da_cons (de_var 11) da_nil))) da_nil)) (nomark _))
  (db_one (ds_ret de_bl))
  db_nil))))
  (db_cons (ds_for cc (di_seq (de_bin op_addX ok_add (de_lst false (da_cons de_int (da_cons de_int (da_cons (de_callD (ok__law_draw h) cc (by decide) (by rfl) (da_cons (de_var 0) (da_cons de_int da_nil))) da_nil)))) (de_lc false cc (di_seq (de_sl false (de_var 8) dp_no (dp_at de_int))) (blkOk_by (N := N__law_is_right) (sc := defScope s__law_is_right) (own := [("far_now", 11), ("pair", 15)]) (by decide +kernel)) (fun _ _ _ _ _ => (dg_tup cc.blk.calm (dgs_cons (dg_name 11 cc.blk.nd rfl (.inl rfl)) (dgs_cons (dg_name 15 cc.blk.nd rfl (.inl rfl)) dgs_nil)))) (fun _ _ _ _ _ => dts_nil) (fun _ _ _ _ _ => (de_var 11))))) (dg_name 14 cc.nd rfl (.inr rfl))
  (db_one (ds_if (dt_cmp (op_neX cc.hu) ok_ne (de_callB (call_reprA cc.gd cc.hu) ok_reprX (by rfl) h.z_repr bb_repr (da_cons (de_callD (ok_kept_apart h) cc (by decide) (by rfl) (da_cons (de_var 7) (da_cons (de_var 14) da_nil))) da_nil)) (de_callB (call_reprA cc.gd cc.hu) ok_reprX (by rfl) h.z_repr bb_repr (da_cons (de_callB (call_allX cc.calm) ok_allF (by rfl) h.z_all bb_all (da_cons (de_lc false cc (di_seq (de_var 8)) (blkOk_by (N := N__law_is_right) (sc := defScope s__law_is_right) (own := [("far_now", 11), ("pair", 15)]) (by decide +kernel)) (fun _ _ _ _ _ => (dg_tup cc.blk.calm (dgs_cons (dg_name 11 cc.blk.nd rfl (.inl rfl)) (dgs_cons (dg_name 15 cc.blk.nd rfl (.inl rfl)) dgs_nil)))) (fun _ _ _ _ _ => dts_nil) (fun _ _ _ _ _ => (de_cmp (op_geX cc.blk.hu) ok_ge (de_var 11) (de_var 14) (nomark _)))) da_nil)) da_nil)) (nomark _))
  (db_one (ds_ret de_bl))
  db_nil)))
  (db_one (ds_ret (de_cmp (op_eqX cc.hu) ok_eq (de_callD (ok_between h) cc (by decide) (by rfl) (da_cons (de_ix (j := 0) (de_var 7) de_int) (da_cons (de_ix (j := 0) (de_var 7) de_int) (da_cons (de_var 1) da_nil)))) de_int (nomark _)))))))))))))
theorem bi__law_is_right (kV doc pm : Value) (an : Option Addr) (cdv ct : Value) (us : List Value) (hl : us.length = 1) : bindArgs (PySem.W.fnOf "_law_is_right" "_law_is_right" (defArgs s__law_is_right) (defBody s__law_is_right) (defScope s__law_is_right) .none kV doc pm an cdv ct) ⟨us, []⟩ = pure ((["hand"] : List Str).zip us) := match us, hl with | [_], _ => rfl
theorem ok__law_is_right {P : Program} {w : World} {K : PySem.W.Frag} {mg : Str → Option Value} {base : Heap} (h : Hd τ K mg base) : DefOk τ P w K mg base 7 1 "_law_is_right" g__law_is_right :=
  def_ok (b := b__law_is_right) (N := N__law_is_right) (ps := ["hand"]) (st := s__law_is_right) h.d__law_is_right sc__law_is_right rfl bi__law_is_right (bd__law_is_right h)
abbrev N__law_are_levels_right : List Str := ["hand", "pressure", "step", "low", "high", "due", "level"]
theorem sc__law_are_levels_right : FnScope N__law_are_levels_right ["hand"] (defScope s__law_are_levels_right) := ⟨rfl, rfl, rfl, by decide +kernel, rfl, by decide +kernel, by decide +kernel⟩
noncomputable def l0__law_are_levels_right : Ev := (eVar 6)
noncomputable def l1__law_are_levels_right : Tv := (tOf (eChain oLe oLe (eVar 3) (eBin oSub (eBin (oMul false) (eD (.int 100)) (eVar 6)) (eBin (oMul false) (eD (.int 30)) (eBin oSub (eD (.int 1013)) (eVar 1)))) (eVar 4)))
noncomputable def b__law_are_levels_right : Sv := (sCons (sPar [(gN 1), (gN 2), (gN 3)] (aCons (eCallN 1 g__law_setting (aCons (eVar 0) aNil)) (aCons (eBin (oAdd false) (eD (.int 5)) (eCallN 2 g__law_draw (aCons (eVar 0) (aCons (eD (.int 96)) aNil)))) (aCons (eCallN 1 g__law_height (aCons (eVar 0) aNil)) aNil))))
  (sCons (sSet 4 (eCall fMin2 (aCons (eD (.int 60000)) (aCons (eBin (oAdd false) (eVar 3) (eCallN 2 g__law_draw (aCons (eVar 0) (aCons (eCallN 2 g__law_some (aCons (eVar 0) (aCons (eLst false (aCons (eD (.int 200)) (aCons (eD (.int 20000)) aNil))) aNil))) aNil)))) aNil))))
  (sCons (sSet 5 (eCall fTuple (aCons (eLc false (iRangeC (aCons (eD (.int 0)) (aCons (eD (.int 501)) (aCons (eVar 2) aNil)))) (gN 6) l1__law_are_levels_right l0__law_are_levels_right [6]) aNil)))
  (sRet (eBin oEq (eCall fReprX (aCons (eLst false (aCons (eCallN 4 g_clear_levels (aCons (eVar 1) (aCons (eVar 3) (aCons (eVar 4) (aCons (eVar 2) aNil))))) (aCons (eCallN 4 g_clear_levels (aCons (eVar 1) (aCons (eVar 3) (aCons (eVar 4) (aCons (eVar 2) aNil))))) aNil))) aNil)) (eCall fReprX (aCons (eLst false (aCons (eVar 5) (aCons (eVar 5) aNil))) aNil)))))))
noncomputable def g__law_are_levels_right : Fn := fnOf 7 b__law_are_levels_right
theorem bd__law_are_levels_right {P : Program} {w : World} {K : PySem.W.Frag} {mg : Str → Option Value} {base : Heap} (h : Hd τ K mg base) (f : Addr) (cdv : Value) (B : Around) (fs : List PySem.Env) (s : Shared) (H : Hp) (E : XK) (cc : Cc (cxD P w K mg base N__law_are_levels_right "_law_are_levels_right" s__law_are_levels_right f cdv B fs s H E) (wD E) 5) : DB τ (cxD P w K mg base N__law_are_levels_right "_law_are_levels_right" s__law_are_levels_right f cdv B fs s H E) (wD E) (defBody s__law_are_levels_right) b__law_are_levels_right :=
  (db_cons (ds_parT (n := 3) cc.calm (da_cons (de_callD (ok__law_setting h) cc (by decide) (by rfl) (da_cons (de_var 0) da_nil)) (da_cons (de_bin op_addX ok_add de_int (de_callD (ok__law_draw h) cc (by decide) (by rfl) (da_cons (de_var 0) (da_cons de_int da_nil)))) (da_cons (de_callD (ok__law_height h) cc (by decide) (by rfl) (da_cons (de_var 0) da_nil)) da_nil))) (dgs_cons (dg_name 1 cc.nd rfl (.inr rfl)) (dgs_cons (dg_name 2 cc.nd rfl (.inl rfl)) (dgs_cons (dg_name 3 cc.nd rfl (.inr rfl)) dgs_nil))))
  (db_cons (ds_set 4 cc.nd rfl (.inr rfl) (de_callB (call_min2 cc.calm) ok_min2 (by rfl) h.z_min bb_min (da_cons de_int (da_cons (de_bin op_addX ok_add (de_var 3) (de_callD (ok__law_draw h) cc (by decide) (by rfl) (da_cons (de_var 0) (da_cons (de_callD (ok__law_some h) cc (by decide) (by rfl) (da_cons (de_var 0) (da_cons (de_lst false (da_cons de_int (da_cons de_int da_nil))) da_nil))) da_nil)))) da_nil))))
  (db_cons (ds_set 5 cc.nd rfl (.inl rfl) (de_callTy call_tuple_of ok_tuple (by rfl) h.z_tuple bb_tuple (da_cons (de_lc false cc (di_range3 (by rfl) h.z_range (da_cons de_int (da_cons de_int (da_cons (de_var 2) da_nil)))) (blkOk_by (N := N__law_are_levels_right) (sc := defScope s__law_are_levels_right) (own := [("level", 6)]) (by decide +kernel)) (fun _ _ _ _ _ => (dg_name 6 cc.blk.nd rfl (.inl rfl))) (fun _ _ _ _ _ => (dts_one (dt_chain (op_leX cc.blk.hu) ok_le (op_leX cc.blk.hu) ok_le (de_var 3) (de_bin op_sub ok_sub (de_bin op_mulX' ok_mul de_int (de_var 6)) (de_bin op_mulX' ok_mul de_int (de_bin op_sub ok_sub de_int (de_var 1)))) (de_var 4)))) (fun _ _ _ _ _ => (de_var 6))) da_nil)))
  (db_one (ds_ret (de_cmp (op_eqX cc.hu) ok_eq (de_callB (call_reprA cc.gd cc.hu) ok_reprX (by rfl) h.z_repr bb_repr (da_cons (de_lst false (da_cons (de_callD (ok_clear_levels h) cc (by decide) (by rfl) (da_cons (de_var 1) (da_cons (de_var 3) (da_cons (de_var 4) (da_cons (de_var 2) da_nil))))) (da_cons (de_callD (ok_clear_levels h) cc (by decide) (by rfl) (da_cons (de_var 1) (da_cons (de_var 3) (da_cons (de_var 4) (da_cons (de_var 2) da_nil))))) da_nil))) da_nil)) (de_callB (call_reprA cc.gd cc.hu) ok_reprX (by rfl) h.z_repr bb_repr (da_cons (de_lst false (da_cons (de_var 5) (da_cons (de_var 5) da_nil))) da_nil)) (nomark _)))))))
theorem bi__law_are_levels_right (kV doc pm : Value) (an : Option Addr) (cdv ct : Value) (us : List Value) (hl : us.length = 1) : bindArgs (PySem.W.fnOf "_law_are_levels_right" "_law_are_levels_right" (defArgs s__law_are_levels_right) (defBody s__law_are_levels_right) (defScope s__law_are_levels_right) .none kV doc pm an cdv ct) ⟨us, []⟩ = pure ((["hand"] : List Str).zip us) := match us, hl with | [_], _ => rfl
theorem ok__law_are_levels_right {P : Program} {w : World} {K : PySem.W.Frag} {mg : Str → Option Value} {base : Heap} (h : Hd τ K mg base) : DefOk τ P w K mg base 6 1 "_law_are_levels_right" g__law_are_levels_right :=
  def_ok (b := b__law_are_levels_right) (N := N__law_are_levels_right) (ps := ["hand"]) (st := s__law_are_levels_right) h.d__law_are_levels_right sc__law_are_levels_right rfl bi__law_are_levels_right (bd__law_are_levels_right h)
abbrev N__law_deep : List Str := ["hand", "found", "turn"]
theorem sc__law_deep : FnScope N__law_deep ["hand"] (defScope s__law_deep) := ⟨rfl, rfl, rfl, by decide +kernel, rfl, by decide +kernel, by decide +kernel⟩
noncomputable def l0__law_deep : Sv := (sSet 1 (eBin oIx (eLst false (aCons (eTup (aCons (eVar 1) aNil)) (aCons (eLst false (aCons (eVar 1) aNil)) (aCons (eDic1 false 0 (eVar 1)) aNil)))) (eCallN 2 g__law_draw (aCons (eVar 0) (aCons (eD (.int 3)) aNil)))))
noncomputable def b__law_deep : Sv := (sCons (sSet 1 (eCallN 2 g__law_some (aCons (eVar 0) (aCons (eLst false (aCons (eD .none) (aCons (eD (.str "0")) (aCons (eDic0 false) aNil)))) aNil))))
  (sCons (sFor (iRange (aCons (eBin (oAdd false) (eD (.int 1)) (eCallN 2 g__law_draw (aCons (eVar 0) (aCons (eD (.int 25)) aNil)))) aNil)) (gN 2) l0__law_deep)
  (sRet (eVar 1))))
noncomputable def g__law_deep : Fn := fnOf 3 b__law_deep
theorem bd__law_deep {P : Program} {w : World} {K : PySem.W.Frag} {mg : Str → Option Value} {base : Heap} (h : Hd τ K mg base) (f : Addr) (cdv : Value) (B : Around) (fs : List PySem.Env) (s : Shared) (H : Hp) (E : XK) (cc : Cc (cxD P w K mg base N__law_deep "_law_deep" s__law_deep f cdv B fs s H E) (wD E) 2) : DB τ (cxD P w K mg base N__law_deep "_law_deep" s__law_deep f cdv B fs s H E) (wD E) (defBody s__law_deep) b__law_deep :=
  (db_cons (ds_set 1 cc.nd rfl (.inl rfl) (de_callD (ok__law_some h) cc (by decide) (by rfl) (da_cons (de_var 0) (da_cons (de_lst false (da_cons de_non (da_cons de_str (da_cons (de_dic0 false) da_nil)))) da_nil))))
  (db_cons (ds_for cc (di_range1 (by rfl) h.z_range (da_cons (de_bin op_addX ok_add de_int (de_callD (ok__law_draw h) cc (by decide) (by rfl) (da_cons (de_var 0) (da_cons de_int da_nil)))) da_nil)) (dg_name 2 cc.nd rfl (.inl rfl))
  (db_one (ds_set 1 cc.nd rfl (.inl rfl) (de_ix (j := 0) (de_lst false (da_cons (de_tup (da_cons (de_var 1) da_nil)) (da_cons (de_lst false (da_cons (de_var 1) da_nil)) (da_cons (de_dic1 false (de_var 1)) da_nil)))) (de_callD (ok__law_draw h) cc (by decide) (by rfl) (da_cons (de_var 0) (da_cons de_int da_nil)))))))
  (db_one (ds_ret (de_var 1)))))
theorem bi__law_deep (kV doc pm : Value) (an : Option Addr) (cdv ct : Value) (us : List Value) (hl : us.length = 1) : bindArgs (PySem.W.fnOf "_law_deep" "_law_deep" (defArgs s__law_deep) (defBody s__law_deep) (defScope s__law_deep) .none kV doc pm an cdv ct) ⟨us, []⟩ = pure ((["hand"] : List Str).zip us) := match us, hl with | [_], _ => rfl
theorem ok__law_deep {P : Program} {w : World} {K : PySem.W.Frag} {mg : Str → Option Value} {base : Heap} (h : Hd τ K mg base) : DefOk τ P w K mg base 3 1 "_law_deep" g__law_deep :=
  def_ok (b := b__law_deep) (N := N__law_deep) (ps := ["hand"]) (st := s__law_deep) h.d__law_deep sc__law_deep rfl bi__law_deep (bd__law_deep h)
abbrev N__law_no_pair : List Str := ["hand", "some"]
theorem sc__law_no_pair : FnScope N__law_no_pair ["hand"] (defScope s__law_no_pair) := ⟨rfl, rfl, rfl, by decide +kernel, rfl, by decide +kernel, by decide +kernel⟩
noncomputable def b__law_no_pair : Sv := (sCons (sSet 1 (eLst false (aCons (eD .none) (aCons (eD (.int 0)) (aCons (eTup aNil) (aCons (eTup (aCons (eD (.int 0)) aNil)) (aCons (eLst false (aCons (eD (.int 0)) (aCons (eD (.int 1000)) aNil))) (aCons (eTup (aCons (eD (.int 0)) (aCons (eD (.int 899)) aNil))) (aCons (eTup (aCons (eD (.int 0)) (aCons (eD (.int 1101)) aNil))) (aCons (eTup (aCons (eD (.int 60001)) (aCons (eD (.int 1000)) aNil))) (aCons (eTup (aCons (eD (.bool true)) (aCons (eD (.int 1000)) aNil))) (aCons (eTup (aCons (eD (.int 0)) (aCons (eD .none) aNil))) aNil))))))))))))
  (sCons (sSet 1 (eBin (oAdd false) (eVar 1) (eLst false (aCons (eDic0 false) (aCons (eTup (aCons (eD (.int 0)) (aCons (eD (.int 1000)) (aCons (eD (.int 1)) aNil)))) aNil)))))
  (sRet (eCallN 2 g__law_some (aCons (eVar 0) (aCons (eBin (oAdd false) (eVar 1) (eLst false (aCons (eTup (aCons (eD (.str "0")) (aCons (eD (.int 1000)) aNil))) (aCons (eCallN 1 g__law_deep (aCons (eVar 0) aNil)) aNil)))) aNil))))))
noncomputable def g__law_no_pair : Fn := fnOf 2 b__law_no_pair
theorem bd__law_no_pair {P : Program} {w : World} {K : PySem.W.Frag} {mg : Str → Option Value} {base : Heap} (h : Hd τ K mg base) (f : Addr) (cdv : Value) (B : Around) (fs : List PySem.Env) (s : Shared) (H : Hp) (E : XK) (cc : Cc (cxD P w K mg base N__law_no_pair "_law_no_pair" s__law_no_pair f cdv B fs s H E) (wD E) 3) : DB τ (cxD P w K mg base N__law_no_pair "_law_no_pair" s__law_no_pair f cdv B fs s H E) (wD E) (defBody s__law_no_pair) b__law_no_pair :=
  (db_cons (ds_set 1 cc.nd rfl (.inl rfl) (de_lst false (da_cons de_non (da_cons de_int (da_cons (de_tup da_nil) (da_cons (de_tup (da_cons de_int da_nil)) (da_cons (de_lst false (da_cons de_int (da_cons de_int da_nil))) (da_cons (de_tup (da_cons de_int (da_cons de_int da_nil))) (da_cons (de_tup (da_cons de_int (da_cons de_int da_nil))) (da_cons (de_tup (da_cons de_int (da_cons de_int da_nil))) (da_cons (de_tup (da_cons de_bl (da_cons de_int da_nil))) (da_cons (de_tup (da_cons de_int (da_cons de_non da_nil))) da_nil))))))))))))
  (db_cons (ds_set 1 cc.nd rfl (.inl rfl) (de_bin op_addX ok_add (de_var 1) (de_lst false (da_cons (de_dic0 false) (da_cons (de_tup (da_cons de_int (da_cons de_int (da_cons de_int da_nil)))) da_nil)))))
  (db_one (ds_ret (de_callD (ok__law_some h) cc (by decide) (by rfl) (da_cons (de_var 0) (da_cons (de_bin op_addX ok_add (de_var 1) (de_lst false (da_cons (de_tup (da_cons de_str (da_cons de_int da_nil))) (da_cons (de_callD (ok__law_deep h) cc (by decide) (by rfl) (da_cons (de_var 0) da_nil)) da_nil)))) da_nil)))))))
theorem bi__law_no_pair (kV doc pm : Value) (an : Option Addr) (cdv ct : Value) (us : List Value) (hl : us.length = 1) : bindArgs (PySem.W.fnOf "_law_no_pair" "_law_no_pair" (defArgs s__law_no_pair) (defBody s__law_no_pair) (defScope s__law_no_pair) .none kV doc pm an cdv ct) ⟨us, []⟩ = pure ((["hand"] : List Str).zip us) := match us, hl with | [_], _ => rfl
theorem ok__law_no_pair {P : Program} {w : World} {K : PySem.W.Frag} {mg : Str → Option Value} {base : Heap} (h : Hd τ K mg base) : DefOk τ P w K mg base 4 1 "_law_no_pair" g__law_no_pair :=
  def_ok (b := b__law_no_pair) (N := N__law_no_pair) (ps := ["hand"]) (st := s__law_no_pair) h.d__law_no_pair sc__law_no_pair rfl bi__law_no_pair (bd__law_no_pair h)
abbrev N__law_no_setting : List Str := ["hand"]
theorem sc__law_no_setting : FnScope N__law_no_setting ["hand"] (defScope s__law_no_setting) := ⟨rfl, rfl, rfl, by decide +kernel, rfl, by decide +kernel, by decide +kernel⟩
noncomputable def b__law_no_setting : Sv := (sRet (eCallN 2 g__law_some (aCons (eVar 0) (aCons (eLst false (aCons (eD (.int 899)) (aCons (eD (.int 1101)) (aCons (eD (.int 0)) (aCons (eUn oNeg (eD (.int 1))) (aCons (eD .none) (aCons (eD (.bool true)) (aCons (eD (.str "1000")) (aCons (eTup (aCons (eD (.int 1000)) aNil)) (aCons (eCallN 1 g__law_deep (aCons (eVar 0) aNil)) aNil)))))))))) aNil))))
noncomputable def g__law_no_setting : Fn := fnOf 1 b__law_no_setting
theorem bd__law_no_setting {P : Program} {w : World} {K : PySem.W.Frag} {mg : Str → Option Value} {base : Heap} (h : Hd τ K mg base) (f : Addr) (cdv : Value) (B : Around) (fs : List PySem.Env) (s : Shared) (H : Hp) (E : XK) (cc : Cc (cxD P w K mg base N__law_no_setting "_law_no_setting" s__law_no_setting f cdv B fs s H E) (wD E) 3) : DB τ (cxD P w K mg base N__law_no_setting "_law_no_setting" s__law_no_setting f cdv B fs s H E) (wD E) (defBody s__law_no_setting) b__law_no_setting :=
  (db_one (ds_ret (de_callD (ok__law_some h) cc (by decide) (by rfl) (da_cons (de_var 0) (da_cons (de_lst false (da_cons de_int (da_cons de_int (da_cons de_int (da_cons (de_un un_neg ok_neg de_int) (da_cons de_non (da_cons de_bl (da_cons de_str (da_cons (de_tup (da_cons de_int da_nil)) (da_cons (de_callD (ok__law_deep h) cc (by decide) (by rfl) (da_cons (de_var 0) da_nil)) da_nil)))))))))) da_nil)))))
theorem bi__law_no_setting (kV doc pm : Value) (an : Option Addr) (cdv ct : Value) (us : List Value) (hl : us.length = 1) : bindArgs (PySem.W.fnOf "_law_no_setting" "_law_no_setting" (defArgs s__law_no_setting) (defBody s__law_no_setting) (defScope s__law_no_setting) .none kV doc pm an cdv ct) ⟨us, []⟩ = pure ((["hand"] : List Str).zip us) := match us, hl with | [_], _ => rfl
theorem ok__law_no_setting {P : Program} {w : World} {K : PySem.W.Frag} {mg : Str → Option Value} {base : Heap} (h : Hd τ K mg base) : DefOk τ P w K mg base 4 1 "_law_no_setting" g__law_no_setting :=
  def_ok (b := b__law_no_setting) (N := N__law_no_setting) (ps := ["hand"]) (st := s__law_no_setting) h.d__law_no_setting sc__law_no_setting rfl bi__law_no_setting (bd__law_no_setting h)
abbrev N__law_no_height : List Str := ["hand"]
theorem sc__law_no_height : FnScope N__law_no_height ["hand"] (defScope s__law_no_height) := ⟨rfl, rfl, rfl, by decide +kernel, rfl, by decide +kernel, by decide +kernel⟩
noncomputable def b__law_no_height : Sv := (sRet (eCallN 2 g__law_some (aCons (eVar 0) (aCons (eLst false (aCons (eD (.int 60001)) (aCons (eUn oNeg (eD (.int 60001))) (aCons (eD .none) (aCons (eD (.bool true)) (aCons (eD (.str "0")) (aCons (eTup (aCons (eD (.int 0)) aNil)) (aCons (eDic0 false) (aCons (eCallN 1 g__law_deep (aCons (eVar 0) aNil)) aNil))))))))) aNil))))
noncomputable def g__law_no_height : Fn := fnOf 1 b__law_no_height
theorem bd__law_no_height {P : Program} {w : World} {K : PySem.W.Frag} {mg : Str → Option Value} {base : Heap} (h : Hd τ K mg base) (f : Addr) (cdv : Value) (B : Around) (fs : List PySem.Env) (s : Shared) (H : Hp) (E : XK) (cc : Cc (cxD P w K mg base N__law_no_height "_law_no_height" s__law_no_height f cdv B fs s H E) (wD E) 3) : DB τ (cxD P w K mg base N__law_no_height "_law_no_height" s__law_no_height f cdv B fs s H E) (wD E) (defBody s__law_no_height) b__law_no_height :=
  (db_one (ds_ret (de_callD (ok__law_some h) cc (by decide) (by rfl) (da_cons (de_var 0) (da_cons (de_lst false (da_cons de_int (da_cons (de_un un_neg ok_neg de_int) (da_cons de_non (da_cons de_bl (da_cons de_str (da_cons (de_tup (da_cons de_int da_nil)) (da_cons (de_dic0 false) (da_cons (de_callD (ok__law_deep h) cc (by decide) (by rfl) (da_cons (de_var 0) da_nil)) da_nil))))))))) da_nil)))))
theorem bi__law_no_height (kV doc pm : Value) (an : Option Addr) (cdv ct : Value) (us : List Value) (hl : us.length = 1) : bindArgs (PySem.W.fnOf "_law_no_height" "_law_no_height" (defArgs s__law_no_height) (defBody s__law_no_height) (defScope s__law_no_height) .none kV doc pm an cdv ct) ⟨us, []⟩ = pure ((["hand"] : List Str).zip us) := match us, hl with | [_], _ => rfl
theorem ok__law_no_height {P : Program} {w : World} {K : PySem.W.Frag} {mg : Str → Option Value} {base : Heap} (h : Hd τ K mg base) : DefOk τ P w K mg base 4 1 "_law_no_height" g__law_no_height :=
  def_ok (b := b__law_no_height) (N := N__law_no_height) (ps := ["hand"]) (st := s__law_no_height) h.d__law_no_height sc__law_no_height rfl bi__law_no_height (bd__law_no_height h)
abbrev N__law_word : List Str := ["call", "found", "e", "flags"]
theorem sc__law_word : FnScope N__law_word ["call"] (defScope s__law_word) := ⟨rfl, rfl, rfl, by decide +kernel, rfl, by decide +kernel, by decide +kernel⟩
noncomputable def b__law_word (act : Ev) : Sv := (sCons (sSet 1 (eD (.str "told")))
  (sCons (sTryAs 2
  (sExpr act)
  sub_FieldError (fun a y => (sCons (sSet 3 (eLst false (aCons (eIsK 2 a (kit_NoNumber y.cls)) (aCons (eIsK 2 a (kit_NoPair y.cls)) (aCons (eIsK 2 a (kit_NoPairs y.cls)) aNil)))))
  (sCons (sSet 1 (eD (.str "other")))
  (sIf (tAnd (tOf (eBin oEq (eMet vCount (eVar 3) (eD (.bool true))) (eD (.int 1)))) (tOf (eIsK 2 a (kit_ValueError y.cls))))
  (sSet 1 (eBin oIx (eLst false (aCons (eD (.str "number")) (aCons (eD (.str "pair")) (aCons (eD (.str "pairs")) aNil)))) (eMet vIndex (eVar 3) (eD (.bool true)))))
  sNil)))))
  (sRet (eVar 1))))
noncomputable def g__law_word (act : Ev) : Fn := fnOf 4 (b__law_word act)
theorem bd__law_word {P : Program} {w : World} {K : PySem.W.Frag} {mg : Str → Option Value} {base : Heap} (h : Hd τ K mg base) (f : Addr) (cdv : Value) (B : Around) (fs : List PySem.Env) (s : Shared) (H : Hp) (E : XK) (act : Ev) (cc : Cc (cxD P w K mg base N__law_word "_law_word" s__law_word f cdv B fs s H E) (wD E) 0) (ha : ∀ (W : WX) (pn : List (Addr × Obj)) (xe : Value → Shared → Prop) (p1 p2 : Pos), Takes ((cxD P w K mg base N__law_word "_law_word" s__law_word f cdv B fs s H E).tr pn xe) W → DE τ ((cxD P w K mg base N__law_word "_law_word" s__law_word f cdv B fs s H E).tr pn xe) W (.Call (.Name "call" p1) [] [] p2) act) : DB τ (cxD P w K mg base N__law_word "_law_word" s__law_word f cdv B fs s H E) (wD E) (defBody s__law_word) (b__law_word act) :=
  (db_cons (ds_set 1 cc.nd rfl (.inl rfl) de_str)
  (db_cons (ds_tryF cc h.y_FieldError rfl (by rfl) (by rfl) (fun W' pn xe tk cc2 =>
  (db_one (ds_expr (ha _ _ _ _ _ tk))))
  (fun a oe y cls pn hy hz hf =>
  (db_cons (ds_set 3 cc.nd rfl (.inl rfl) (de_lst false (da_cons (de_isK h.i_NoNumber (by rfl) hy hz hf rfl (by rfl) h.z_isinstance) (da_cons (de_isK h.i_NoPair (by rfl) hy hz hf rfl (by rfl) h.z_isinstance) (da_cons (de_isK h.i_NoPairs (by rfl) hy hz hf rfl (by rfl) h.z_isinstance) da_nil)))))
  (db_cons (ds_set 1 cc.nd rfl (.inl rfl) de_str)
  (db_one (ds_if (DW.t (dw_and (dt_cmp (op_eqX cc.hu) ok_eq (de_met PySem.F.slot_list_count PySem.F.type_list_count (mt_countX cc.hu) ok_count (de_var 3) (da_cons de_bl da_nil)) de_int (nomark _)) (dw_one (dt_val (de_isK h.i_ValueError (by rfl) hy hz hf rfl (by rfl) h.z_isinstance)))))
  (db_one (ds_set 1 cc.nd rfl (.inl rfl) (de_ix (j := 0) (de_lst false (da_cons de_str (da_cons de_str (da_cons de_str da_nil)))) (de_met PySem.F.slot_list_index PySem.F.type_list_index (mt_indexX cc.hu) ok_index (de_var 3) (da_cons de_bl da_nil)))))
  db_nil))))))
  (db_one (ds_ret (de_var 1)))))
theorem bi__law_word (kV doc pm : Value) (an : Option Addr) (cdv ct : Value) (us : List Value) (hl : us.length = 1) : bindArgs (PySem.W.fnOf "_law_word" "_law_word" (defArgs s__law_word) (defBody s__law_word) (defScope s__law_word) .none kV doc pm an cdv ct) ⟨us, []⟩ = pure ((["call"] : List Str).zip us) := match us, hl with | [_], _ => rfl
theorem ok__law_word {P : Program} {w : World} {K : PySem.W.Frag} {mg : Str → Option Value} {base : Heap} (h : Hd τ K mg base) : LamOk τ P w K mg base 0 "_law_word" g__law_word :=
  lam_ok (b := b__law_word) (N := N__law_word) (st := s__law_word) h.d__law_word sc__law_word rfl (.inl rfl) (by decide) (by decide) (fun _ => rfl) bi__law_word (bd__law_word h)
abbrev N__law_are_refused : List Str := ["hand", "bad", "odd", "good", "none", "high", "least", "step", "words"]
theorem sc__law_are_refused : FnScope N__law_are_refused ["hand"] (defScope s__law_are_refused) := ⟨rfl, rfl, rfl, by decide +kernel, rfl, by decide +kernel, by decide +kernel⟩
noncomputable def t0__law_are_refused : Sv := (sPar [(gN 1), (gN 2), (gN 3)] (aCons (eCallN 1 g__law_no_pair (aCons (eVar 0) aNil)) (aCons (eCallN 1 g__law_no_setting (aCons (eVar 0) aNil)) (aCons (eTup (aCons (eD (.int 0)) (aCons (eD (.int 1000)) aNil))) aNil))))
noncomputable def t1__law_are_refused : Sv := (sSet 4 (eLst false (aCons (eD .none) (aCons (eTup aNil) (aCons (eD (.int 0)) (aCons (eLst false (aCons (eTup (aCons (eD (.int 0)) (aCons (eD (.int 1000)) aNil))) aNil)) (aCons (eTup (aCons (eD (.int 0)) (aCons (eD (.int 1000)) aNil))) (aCons (eDic0 false) (aCons (eBin (oMulT false) (eTup (aCons (eTup (aCons (eD (.int 0)) (aCons (eD (.int 1000)) aNil))) aNil)) (eD (.int 13))) (aCons (eTup (aCons (eTup (aCons (eD (.int 0)) (aCons (eD (.int 1000)) aNil))) (aCons (eTup (aCons (eD (.int 0)) (aCons (eD (.int 899)) aNil))) aNil))) (aCons (eD (.str "pairs")) aNil)))))))))))
noncomputable def t2__law_are_refused : Sv := (sPar [(gN 5), (gN 4)] (aCons (eCallN 1 g__law_no_height (aCons (eVar 0) aNil)) (aCons (eCallN 2 g__law_some (aCons (eVar 0) (aCons (eBin (oAdd false) (eVar 4) (eLst false (aCons (eCallN 1 g__law_deep (aCons (eVar 0) aNil)) aNil))) aNil))) aNil)))
noncomputable def t3__law_are_refused : Sv := (sSet 6 (eCallN 2 g__law_some (aCons (eVar 0) (aCons (eLst false (aCons (eUn oNeg (eD (.int 1))) (aCons (eD .none) (aCons (eD (.bool true)) (aCons (eD (.str "5")) (aCons (eTup (aCons (eD (.int 5)) aNil)) (aCons (eCallN 1 g__law_deep (aCons (eVar 0) aNil)) aNil))))))) aNil))))
noncomputable def t4__law_are_refused : Sv := (sSet 7 (eCallN 2 g__law_some (aCons (eVar 0) (aCons (eLst false (aCons (eD (.int 4)) (aCons (eD (.int 101)) (aCons (eD (.int 0)) (aCons (eUn oNeg (eD (.int 5))) (aCons (eD .none) (aCons (eD (.bool true)) (aCons (eD (.str "5")) (aCons (eTup (aCons (eD (.int 5)) aNil)) (aCons (eCallN 1 g__law_deep (aCons (eVar 0) aNil)) aNil)))))))))) aNil))))
noncomputable def l0__law_are_refused : Ev := (eCallN 3 g_between (aCons (eVar 1) (aCons (eVar 1) (aCons (eVar 2) aNil))))
noncomputable def l1__law_are_refused : Ev := (eCallN 3 g_between (aCons (eVar 3) (aCons (eVar 1) (aCons (eVar 2) aNil))))
noncomputable def t5__law_are_refused : Sv := (sSet 8 (eLst true (aCons (eLam g__law_word l0__law_are_refused) (aCons (eLam g__law_word l1__law_are_refused) aNil))))
noncomputable def l2__law_are_refused : Ev := (eCallN 3 g_between (aCons (eVar 3) (aCons (eVar 3) (aCons (eVar 2) aNil))))
noncomputable def l3__law_are_refused : Ev := (eCallN 2 g_kept_apart (aCons (eVar 4) (aCons (eVar 6) aNil)))
noncomputable def t6__law_are_refused : Sv := (sSet 8 (eBin (oAdd true) (eVar 8) (eLst false (aCons (eLam g__law_word l2__law_are_refused) (aCons (eLam g__law_word l3__law_are_refused) aNil)))))
noncomputable def l4__law_are_refused : Ev := (eCallN 2 g_kept_apart (aCons (eTup (aCons (eVar 3) aNil)) (aCons (eVar 6) aNil)))
noncomputable def l5__law_are_refused : Ev := (eCallN 1 g_nearest_two (aCons (eVar 4) aNil))
noncomputable def t7__law_are_refused : Sv := (sSet 8 (eBin (oAdd true) (eVar 8) (eLst false (aCons (eLam g__law_word l4__law_are_refused) (aCons (eLam g__law_word l5__law_are_refused) aNil)))))
noncomputable def l6__law_are_refused : Ev := (eCallN 4 g_clear_levels (aCons (eVar 2) (aCons (eD (.int 0)) (aCons (eD (.int 5)) (aCons (eD (.int 5)) aNil)))))
noncomputable def t8__law_are_refused : Sv := (sExpr (eApp (eVar 8) (eLam g__law_word l6__law_are_refused)))
noncomputable def l7__law_are_refused : Ev := (eCallN 4 g_clear_levels (aCons (eD (.int 1000)) (aCons (eVar 5) (aCons (eD (.int 5)) (aCons (eD (.int 5)) aNil)))))
noncomputable def t9__law_are_refused : Sv := (sExpr (eApp (eVar 8) (eLam g__law_word l7__law_are_refused)))
noncomputable def l8__law_are_refused : Ev := (eCallN 4 g_clear_levels (aCons (eD (.int 1000)) (aCons (eD (.int 0)) (aCons (eVar 5) (aCons (eD (.int 5)) aNil)))))
noncomputable def t10__law_are_refused : Sv := (sExpr (eApp (eVar 8) (eLam g__law_word l8__law_are_refused)))
noncomputable def l9__law_are_refused : Ev := (eCallN 4 g_clear_levels (aCons (eD (.int 1000)) (aCons (eD (.int 0)) (aCons (eD (.int 5)) (aCons (eVar 7) aNil)))))
noncomputable def t11__law_are_refused : Sv := (sExpr (eApp (eVar 8) (eLam g__law_word l9__law_are_refused)))
noncomputable def t12__law_are_refused : Sv := (sRet (eBin oEq (eVar 8) (eBin (oAdd false) (eLst false (aCons (eD (.str "pair")) (aCons (eD (.str "pair")) (aCons (eD (.str "number")) (aCons (eD (.str "pairs")) (aCons (eD (.str "number")) (aCons (eD (.str "pairs")) aNil))))))) (eBin (oMul false) (eLst false (aCons (eD (.str "number")) aNil)) (eD (.int 4))))))
noncomputable def b__law_are_refused : Sv := (sCons t0__law_are_refused
  (sCons t1__law_are_refused
  (sCons t2__law_are_refused
  (sCons t3__law_are_refused
  (sCons t4__law_are_refused
  (sCons t5__law_are_refused
  (sCons t6__law_are_refused
  (sCons t7__law_are_refused
  (sCons t8__law_are_refused
  (sCons t9__law_are_refused
  (sCons t10__law_are_refused
  (sCons t11__law_are_refused
  t12__law_are_refused))))))))))))
noncomputable def g__law_are_refused : Fn := fnOf 9 b__law_are_refused
theorem bd__law_are_refused {P : Program} {w : World} {K : PySem.W.Frag} {mg : Str → Option Value} {base : Heap} (h : Hd τ K mg base) (f : Addr) (cdv : Value) (B : Around) (fs : List PySem.Env) (s : Shared) (H : Hp) (E : XK) (lh : Lh τ (cxD P w K mg base N__law_are_refused "_law_are_refused" s__law_are_refused f cdv B fs s H E)) (cc : Cc (cxD P w K mg base N__law_are_refused "_law_are_refused" s__law_are_refused f cdv B fs s H E) (wD E) 8) : DB τ (cxD P w K mg base N__law_are_refused "_law_are_refused" s__law_are_refused f cdv B fs s H E) (wD E) (defBody s__law_are_refused) b__law_are_refused :=
  (db_cons (ds_parT (n := 3) cc.calm (da_cons (de_callD (ok__law_no_pair h) cc (by decide) (by rfl) (da_cons (de_var 0) da_nil)) (da_cons (de_callD (ok__law_no_setting h) cc (by decide) (by rfl) (da_cons (de_var 0) da_nil)) (da_cons (de_tup (da_cons de_int (da_cons de_int da_nil))) da_nil))) (dgs_cons (dg_name 1 cc.nd rfl (.inr rfl)) (dgs_cons (dg_name 2 cc.nd rfl (.inr rfl)) (dgs_cons (dg_name 3 cc.nd rfl (.inr rfl)) dgs_nil))))
  (db_cons (ds_set 4 cc.nd rfl (.inr rfl) (de_lst false (da_cons de_non (da_cons (de_tup da_nil) (da_cons de_int (da_cons (de_lst false (da_cons (de_tup (da_cons de_int (da_cons de_int da_nil))) da_nil)) (da_cons (de_tup (da_cons de_int (da_cons de_int da_nil))) (da_cons (de_dic0 false) (da_cons (de_bin op_mulT ok_mulT (de_tup (da_cons (de_tup (da_cons de_int (da_cons de_int da_nil))) da_nil)) de_int) (da_cons (de_tup (da_cons (de_tup (da_cons de_int (da_cons de_int da_nil))) (da_cons (de_tup (da_cons de_int (da_cons de_int da_nil))) da_nil))) (da_cons de_str da_nil)))))))))))
  (db_cons (ds_parT (n := 2) cc.calm (da_cons (de_callD (ok__law_no_height h) cc (by decide) (by rfl) (da_cons (de_var 0) da_nil)) (da_cons (de_callD (ok__law_some h) cc (by decide) (by rfl) (da_cons (de_var 0) (da_cons (de_bin op_addX ok_add (de_var 4) (de_lst false (da_cons (de_callD (ok__law_deep h) cc (by decide) (by rfl) (da_cons (de_var 0) da_nil)) da_nil))) da_nil))) da_nil)) (dgs_cons (dg_name 5 cc.nd rfl (.inr rfl)) (dgs_cons (dg_name 4 cc.nd rfl (.inr rfl)) dgs_nil)))
  (db_cons (ds_set 6 cc.nd rfl (.inr rfl) (de_callD (ok__law_some h) cc (by decide) (by rfl) (da_cons (de_var 0) (da_cons (de_lst false (da_cons (de_un un_neg ok_neg de_int) (da_cons de_non (da_cons de_bl (da_cons de_str (da_cons (de_tup (da_cons de_int da_nil)) (da_cons (de_callD (ok__law_deep h) cc (by decide) (by rfl) (da_cons (de_var 0) da_nil)) da_nil))))))) da_nil))))
  (db_cons (ds_set 7 cc.nd rfl (.inr rfl) (de_callD (ok__law_some h) cc (by decide) (by rfl) (da_cons (de_var 0) (da_cons (de_lst false (da_cons de_int (da_cons de_int (da_cons de_int (da_cons (de_un un_neg ok_neg de_int) (da_cons de_non (da_cons de_bl (da_cons de_str (da_cons (de_tup (da_cons de_int da_nil)) (da_cons (de_callD (ok__law_deep h) cc (by decide) (by rfl) (da_cons (de_var 0) da_nil)) da_nil)))))))))) da_nil))))
  (db_cons (ds_set 8 cc.nd rfl (.inl rfl) (de_lst true (da_cons (de_lam (ok__law_word h) cc lh (by decide) (Nat.le_refl _) (by rfl) (lamN_by (N := N__law_are_refused) (sc := defScope s__law_are_refused) (ns := []) (by decide +kernel)) (.none rfl (fun _ _ _ _ _ _ _ => .of_eq rfl)) (fun A outer s H E f c' cl => (de_callD (ok_between h) cl (by decide) (by rfl) (da_cons (de_var 1) (da_cons (de_var 1) (da_cons (de_var 2) da_nil)))))) (da_cons (de_lam (ok__law_word h) cc lh (by decide) (Nat.le_refl _) (by rfl) (lamN_by (N := N__law_are_refused) (sc := defScope s__law_are_refused) (ns := ["of"]) (by decide +kernel)) (.int rfl rfl (fun _ _ _ T _ _ _ _ v hT => .of_defaults rfl hT rfl rfl rfl)) (fun A outer s H E f c' cl => (de_callD (ok_between h) cl (by decide) (by rfl) (da_cons (de_var 3) (da_cons (de_var 1) (da_cons (de_var 2) da_nil)))))) da_nil))))
  (db_cons (ds_set 8 cc.nd rfl (.inl rfl) (de_bin op_addX ok_add (de_var 8) (de_lst false (da_cons (de_lam (ok__law_word h) cc lh (by decide) (Nat.le_refl _) (by rfl) (lamN_by (N := N__law_are_refused) (sc := defScope s__law_are_refused) (ns := []) (by decide +kernel)) (.none rfl (fun _ _ _ _ _ _ _ => .of_eq rfl)) (fun A outer s H E f c' cl => (de_callD (ok_between h) cl (by decide) (by rfl) (da_cons (de_var 3) (da_cons (de_var 3) (da_cons (de_var 2) da_nil)))))) (da_cons (de_lam (ok__law_word h) cc lh (by decide) (Nat.le_refl _) (by rfl) (lamN_by (N := N__law_are_refused) (sc := defScope s__law_are_refused) (ns := ["of"]) (by decide +kernel)) (.int rfl rfl (fun _ _ _ T _ _ _ _ v hT => .of_defaults rfl hT rfl rfl rfl)) (fun A outer s H E f c' cl => (de_callD (ok_kept_apart h) cl (by decide) (by rfl) (da_cons (de_var 4) (da_cons (de_var 6) da_nil))))) da_nil)))))
  (db_cons (ds_set 8 cc.nd rfl (.inl rfl) (de_bin op_addX ok_add (de_var 8) (de_lst false (da_cons (de_lam (ok__law_word h) cc lh (by decide) (Nat.le_refl _) (by rfl) (lamN_by (N := N__law_are_refused) (sc := defScope s__law_are_refused) (ns := []) (by decide +kernel)) (.none rfl (fun _ _ _ _ _ _ _ => .of_eq rfl)) (fun A outer s H E f c' cl => (de_callD (ok_kept_apart h) cl (by decide) (by rfl) (da_cons (de_tup (da_cons (de_var 3) da_nil)) (da_cons (de_var 6) da_nil))))) (da_cons (de_lam (ok__law_word h) cc lh (by decide) (Nat.le_refl _) (by rfl) (lamN_by (N := N__law_are_refused) (sc := defScope s__law_are_refused) (ns := ["of"]) (by decide +kernel)) (.int rfl rfl (fun _ _ _ T _ _ _ _ v hT => .of_defaults rfl hT rfl rfl rfl)) (fun A outer s H E f c' cl => (de_callD (ok_nearest_two h) cl (by decide) (by rfl) (da_cons (de_var 4) da_nil)))) da_nil)))))
  (db_cons (ds_expr (de_append (de_var 8) (da_cons (de_lam (ok__law_word h) cc lh (by decide) (Nat.le_refl _) (by rfl) (lamN_by (N := N__law_are_refused) (sc := defScope s__law_are_refused) (ns := []) (by decide +kernel)) (.none rfl (fun _ _ _ _ _ _ _ => .of_eq rfl)) (fun A outer s H E f c' cl => (de_callD (ok_clear_levels h) cl (by decide) (by rfl) (da_cons (de_var 2) (da_cons de_int (da_cons de_int (da_cons de_int da_nil))))))) da_nil)))
  (db_cons (ds_expr (de_append (de_var 8) (da_cons (de_lam (ok__law_word h) cc lh (by decide) (Nat.le_refl _) (by rfl) (lamN_by (N := N__law_are_refused) (sc := defScope s__law_are_refused) (ns := ["of"]) (by decide +kernel)) (.int rfl rfl (fun _ _ _ T _ _ _ _ v hT => .of_defaults rfl hT rfl rfl rfl)) (fun A outer s H E f c' cl => (de_callD (ok_clear_levels h) cl (by decide) (by rfl) (da_cons de_int (da_cons (de_var 5) (da_cons de_int (da_cons de_int da_nil))))))) da_nil)))
  (db_cons (ds_expr (de_append (de_var 8) (da_cons (de_lam (ok__law_word h) cc lh (by decide) (Nat.le_refl _) (by rfl) (lamN_by (N := N__law_are_refused) (sc := defScope s__law_are_refused) (ns := []) (by decide +kernel)) (.none rfl (fun _ _ _ _ _ _ _ => .of_eq rfl)) (fun A outer s H E f c' cl => (de_callD (ok_clear_levels h) cl (by decide) (by rfl) (da_cons de_int (da_cons de_int (da_cons (de_var 5) (da_cons de_int da_nil))))))) da_nil)))
  (db_cons (ds_expr (de_append (de_var 8) (da_cons (de_lam (ok__law_word h) cc lh (by decide) (Nat.le_refl _) (by rfl) (lamN_by (N := N__law_are_refused) (sc := defScope s__law_are_refused) (ns := ["of"]) (by decide +kernel)) (.int rfl rfl (fun _ _ _ T _ _ _ _ v hT => .of_defaults rfl hT rfl rfl rfl)) (fun A outer s H E f c' cl => (de_callD (ok_clear_levels h) cl (by decide) (by rfl) (da_cons de_int (da_cons de_int (da_cons de_int (da_cons (de_var 7) da_nil))))))) da_nil)))
  (db_one (ds_ret (de_cmp (op_eqX cc.hu) ok_eq (de_var 8) (de_bin op_addX ok_add (de_lst false (da_cons de_str (da_cons de_str (da_cons de_str (da_cons de_str (da_cons de_str (da_cons de_str da_nil))))))) (de_bin op_mulX' ok_mul (de_lst false (da_cons de_str da_nil)) de_int)) (nomark _))))))))))))))))
theorem bi__law_are_refused (kV doc pm : Value) (an : Option Addr) (cdv ct : Value) (us : List Value) (hl : us.length = 1) : bindArgs (PySem.W.fnOf "_law_are_refused" "_law_are_refused" (defArgs s__law_are_refused) (defBody s__law_are_refused) (defScope s__law_are_refused) .none kV doc pm an cdv ct) ⟨us, []⟩ = pure ((["hand"] : List Str).zip us) := match us, hl with | [_], _ => rfl
theorem ok__law_are_refused {P : Program} {w : World} {K : PySem.W.Frag} {mg : Str → Option Value} {base : Heap} (h : Hd τ K mg base) : DefOk τ P w K mg base 9 1 "_law_are_refused" g__law_are_refused :=
  def_okL (b := b__law_are_refused) (N := N__law_are_refused) (ps := ["hand"]) (st := s__law_are_refused) h.d__law_are_refused sc__law_are_refused rfl bi__law_are_refused (bd__law_are_refused h)
abbrev N_law : List Str := ["script", "hand", "step"]
theorem sc_law : FnScope N_law ["script"] (defScope s_law) := ⟨rfl, rfl, rfl, by decide +kernel, rfl, by decide +kernel, by decide +kernel⟩
noncomputable def l0_law : Ev := (eAnd (eCallN 1 g__law_is_right (aCons (eVar 1) aNil)) (eAnd (eCallN 1 g__law_are_levels_right (aCons (eVar 1) aNil)) (eCallN 1 g__law_are_refused (aCons (eVar 1) aNil))))
noncomputable def b_law : Sv := (sCons (sSet 1 (eCallN 1 g__law_hand (aCons (eVar 0) aNil)))
  (sCons (sIf (tOr (tOf (eBin oNe (eCallN 3 g_between (aCons (eTup (aCons (eD (.int 1000)) (aCons (eD (.int 1013)) aNil))) (aCons (eTup (aCons (eD (.int 1000)) (aCons (eD (.int 1000)) aNil))) (aCons (eD (.int 1013)) aNil)))) (eD (.int 390)))) (tOf (eBin (oIs true) (eCallN 2 g_kept_apart (aCons (eTup (aCons (eTup (aCons (eD (.int 0)) (aCons (eD (.int 1000)) aNil))) aNil)) (aCons (eD (.int 500)) aNil))) (eD (.bool true)))))
  (sRet (eD (.bool false)))
  sNil)
  (sCons (sIf (tOr (tOf (eBin oNe (eCallN 1 g_nearest_two (aCons (eTup (aCons (eTup (aCons (eD (.int 0)) (aCons (eD (.int 1000)) aNil))) (aCons (eTup (aCons (eD (.int 100)) (aCons (eD (.int 1000)) aNil))) (aCons (eTup (aCons (eD (.int 190)) (aCons (eD (.int 1000)) aNil))) aNil)))) aNil)) (eTup (aCons (eD (.int 1)) (aCons (eD (.int 2)) aNil))))) (tOf (eBin (oIs true) (eCallN 1 g_nearest_two (aCons (eTup (aCons (eTup (aCons (eD (.int 0)) (aCons (eD (.int 1000)) aNil))) aNil)) aNil)) (eD .none))))
  (sRet (eD (.bool false)))
  sNil)
  (sCons (sIf (tOr (tOf (eBin oNe (eCallN 4 g_clear_levels (aCons (eD (.int 1013)) (aCons (eD (.int 1000)) (aCons (eD (.int 3000)) (aCons (eD (.int 10)) aNil))))) (eTup (aCons (eD (.int 10)) (aCons (eD (.int 20)) (aCons (eD (.int 30)) aNil)))))) (tOf (eBin oNe (eCallN 4 g_clear_levels (aCons (eD (.int 1013)) (aCons (eD (.int 10)) (aCons (eD (.int 5)) (aCons (eD (.int 5)) aNil))))) (eTup aNil))))
  (sRet (eD (.bool false)))
  sNil)
  (sRet (eCall fAll (aCons (eLc false (iRange (aCons (eD (.int 6)) aNil)) (gN 2) tYesD l0_law [2]) aNil)))))))
noncomputable def g_law : Fn := fnOf 3 b_law
theorem bd_law {P : Program} {w : World} {K : PySem.W.Frag} {mg : Str → Option Value} {base : Heap} (h : Hd τ K mg base) (f : Addr) (cdv : Value) (B : Around) (fs : List PySem.Env) (s : Shared) (H : Hp) (E : XK) (cc : Cc (cxD P w K mg base N_law "law" s_law f cdv B fs s H E) (wD E) 9) : DB τ (cxD P w K mg base N_law "law" s_law f cdv B fs s H E) (wD E) (defBody s_law) b_law :=
  (db_cons (ds_set 1 cc.nd rfl (.inr rfl) (de_callD (ok__law_hand h) cc (by decide) (by rfl) (da_cons (de_var 0) da_nil)))
  (db_cons (ds_if (DW.t (dw_or (dt_cmp (op_neX cc.hu) ok_ne (de_callD (ok_between h) cc (by decide) (by rfl) (da_cons (de_tup (da_cons de_int (da_cons de_int da_nil))) (da_cons (de_tup (da_cons de_int (da_cons de_int da_nil))) (da_cons de_int da_nil)))) de_int (nomark _)) (dw_or1 (dt_cmp op_isNotX ok_is (de_callD (ok_kept_apart h) cc (by decide) (by rfl) (da_cons (de_tup (da_cons (de_tup (da_cons de_int (da_cons de_int da_nil))) da_nil)) (da_cons de_int da_nil))) de_bl (nomark _)))))
  (db_one (ds_ret de_bl))
  db_nil)
  (db_cons (ds_if (DW.t (dw_or (dt_cmp (op_neX cc.hu) ok_ne (de_callD (ok_nearest_two h) cc (by decide) (by rfl) (da_cons (de_tup (da_cons (de_tup (da_cons de_int (da_cons de_int da_nil))) (da_cons (de_tup (da_cons de_int (da_cons de_int da_nil))) (da_cons (de_tup (da_cons de_int (da_cons de_int da_nil))) da_nil)))) da_nil)) (de_tup (da_cons de_int (da_cons de_int da_nil))) (nomark _)) (dw_or1 (dt_cmp op_isNotX ok_is (de_callD (ok_nearest_two h) cc (by decide) (by rfl) (da_cons (de_tup (da_cons (de_tup (da_cons de_int (da_cons de_int da_nil))) da_nil)) da_nil)) de_non (nomark _)))))
  (db_one (ds_ret de_bl))
  db_nil)
  (db_cons (ds_if (DW.t (dw_or (dt_cmp (op_neX cc.hu) ok_ne (de_callD (ok_clear_levels h) cc (by decide) (by rfl) (da_cons de_int (da_cons de_int (da_cons de_int (da_cons de_int da_nil))))) (de_tup (da_cons de_int (da_cons de_int (da_cons de_int da_nil)))) (nomark _)) (dw_or1 (dt_cmp (op_neX cc.hu) ok_ne (de_callD (ok_clear_levels h) cc (by decide) (by rfl) (da_cons de_int (da_cons de_int (da_cons de_int (da_cons de_int da_nil))))) (de_tup da_nil) (nomark _)))))
  (db_one (ds_ret de_bl))
  db_nil)
  (db_one (ds_ret (de_callB (call_allX cc.calm) ok_allF (by rfl) h.z_all bb_all (da_cons (de_lc false cc (di_range1 (by rfl) h.z_range (da_cons de_int da_nil)) (blkOk_by (N := N_law) (sc := defScope s_law) (own := [("step", 2)]) (by decide +kernel)) (fun _ _ _ _ _ => (dg_name 2 cc.blk.nd rfl (.inl rfl))) (fun _ _ _ _ _ => dts_nil) (fun _ _ _ _ _ => (de_and (de_callD (ok__law_is_right h) cc.blk (by decide) (by rfl) (da_cons (de_var 1) da_nil)) (de_and (de_callD (ok__law_are_levels_right h) cc.blk (by decide) (by rfl) (da_cons (de_var 1) da_nil)) (de_one (de_callD (ok__law_are_refused h) cc.blk (by decide) (by rfl) (da_cons (de_var 1) da_nil))))))) da_nil))))))))
theorem ok_law {P : Program} {w : World} {K : PySem.W.Frag} {mg : Str → Option Value} {base : Heap} {fa : Addr} {fd : FuncData} (h : Hd τ K mg base) (hfa : mg "law" = some (.ref fa)) (same : ∃ (oc : Value) (od : Option Addr) (osl : Array (Option Value)), K.lookup fa = some ⟨oc, od, .func fd, osl⟩) : Fk P w K mg base 10 fa fd ["script"] (spN τ K mg 1 g_law) :=
  law_endF (b := b_law) (N := N_law) (st := s_law) h.d_law hfa sc_law (bd_law h) same
set_option exponentiation.threshold 5000
theorem draw_ok : DrawR g__law_draw := by
  rintro size _ R h0 h1 ⟨cs, p, z, s, n, ok, rfl⟩
  have hs1 : size < 2 ^ 4000 := Int.lt_trans h1 (by decide)
  have hs0 : size ≠ 0 := by omega
  have m1 : mulOk s 69621 = true := mulOk_r (by decide)
  generalize e : g__law_draw [.loc 0, .d (.int size)] (hand cs p z s n :: R) = RR
  by_cases hz : z = 0
  · by_cases hp : p < cs.length
    · -- a cell is taken
      obtain ⟨k, rfl⟩ : ∃ k : Nat, p = k := ⟨p.toNat, by have := ok.p; omega⟩
      have hk : k < cs.length := by omega
      have ec : atI (cs.map PyData.int) k = some (.int cs[k]) := by rw [atI_nat]; simp [hk]
      have c0 : 0 ≤ cs[k] := ok.cs _ (List.getElem_mem hk)
      generalize cs[k] = c at ec c0
      have m2 : mulOk c 40692 = true := mulOk_r (by decide)
      subst hz
      by_cases hc : 1000000000000000000 ≤ c
      · have cp : 0 < c := by omega
        simp [g__law_draw, ap_fnOf, b__law_draw, hand, oIx, view, oPost, ec, hp, ixN, oMul_int, m1, m2, oMod_int, oDiv_int h0 hs1, oDiv_int, oPow, hc, cp, h0, hs1, List.replicate] at e
        subst e
        refine ⟨_, _, Int.emod_nonneg _ hs0, Int.emod_lt_of_pos _ h0, ⟨cs, _, _, _, _, ?_, rfl⟩, rfl⟩; exact ⟨ok.cs, by have := ok.p; omega, Int.ediv_nonneg c0 (by omega), Int.emod_nonneg _ (by decide), ok.n⟩
      · simp [g__law_draw, ap_fnOf, b__law_draw, hand, oIx, view, oPost, ec, hp, ixN, oMul_int, m1, m2, oMod_int, oDiv_int h0 hs1, oDiv_int, oPow, hc, h0, hs1, List.replicate, mod_l, num_l, num_r] at e
        subst e
        refine ⟨_, _, Int.emod_nonneg _ hs0, Int.emod_lt_of_pos _ h0, ⟨cs, _, _, _, _, ?_, rfl⟩, rfl⟩; exact ⟨ok.cs, by have := ok.p; omega, by decide, Int.emod_nonneg _ (by decide), by have := ok.n; omega⟩
    · subst hz
      simp [g__law_draw, ap_fnOf, b__law_draw, hand, oIx, view, oPost, hp, ixN, oMul_int, m1, oMod_int, oDiv_int h0 hs1, oDiv_int, oPow, h0, hs1, List.replicate, mod_l, num_l, num_r] at e
      subst e
      refine ⟨_, _, Int.emod_nonneg _ hs0, Int.emod_lt_of_pos _ h0, ⟨cs, _, _, _, _, ?_, rfl⟩, rfl⟩; exact ⟨ok.cs, ok.p, by decide, ok.s, by have := ok.n; omega⟩
  · have zp : 0 < z := by have := ok.z; omega
    simp [g__law_draw, ap_fnOf, b__law_draw, hand, oIx, view, oPost, hz, zp, ixN, oMod_int, oDiv_int h0 hs1, oDiv_int, h0, hs1, List.replicate] at e
    subst e
    refine ⟨_, _, Int.emod_nonneg _ hs0, Int.emod_lt_of_pos _ h0, ⟨cs, _, _, _, _, ?_, rfl⟩, rfl⟩; exact ⟨ok.cs, ok.p, Int.ediv_nonneg (by omega) (by omega), ok.s, ok.n⟩
set_option exponentiation.threshold 5000
abbrev NN : Xn := ⟨"NoNumber", []⟩
abbrev NP : Xn := ⟨"NoPair", []⟩
abbrev NS : Xn := ⟨"NoPairs", []⟩
theorem hand_ok (ns : List Int) (h : ns.length ≤ 63) : ∃ m, IsHand m ∧ g__law_hand [.scr ns] [] = .ok (.loc 0) [m] := by
  have cut : cutD (ns.map PyData.int) none (some 63) = ns.map PyData.int := cut63 h
  have lc := lcL_all (tg := gN 2) (f := l0__law_hand) (ρ := [some (.scr ns), none, none]) absD (S := []) (ns.map PyData.int) [] (fun x hx => by
    obtain ⟨i, _, rfl⟩ := List.mem_map.mp hx
    exact ⟨_, rfl, by simp [l0__law_hand, absD]⟩) (by simp; omega)
  have lc2 : (ns.map PyData.int).map absD = (ns.map fun i => (i.natAbs : Int)).map PyData.int := by simp [absD]
  rw [lc2] at lc
  refine ⟨hand (ns.map fun i => (i.natAbs : Int)) 0 0 (431 + 7 * ns.length) 0, ⟨_, _, _, _, _, ⟨fun c hc => ?_, by decide, by decide, by omega, by decide⟩, rfl⟩, ?_⟩
  · obtain ⟨i, _, rfl⟩ := List.mem_map.mp hc
    omega
  · have m : mulOk 7 (ns.length : Int) = true := mulOk_l (by decide)
    simp [g__law_hand, ap_fnOf, b__law_hand, slV, cut, seqOf, List.replicate, wipeE]
    simp at lc
    simp [lc, oMul_int, m, leave, hand]
theorem some_ok {xs : List D} {m : MO} {R : Store} (h : xs ≠ []) (hl : xs.length ≤ 1000) (H : IsHand m) : ∃ x m', x ∈ xs ∧ IsHand m' ∧ g__law_some [.loc 0, .d (.list xs)] (m :: R) = .ok (.d x) (m' :: R) := by
  have hp : 0 < xs.length := List.length_pos_iff.mpr h
  obtain ⟨r, m', h0, h1, H', e⟩ := draw_ok xs.length m R (by omega) (by omega) H
  obtain ⟨k, rfl⟩ : ∃ k : Nat, r = k := ⟨r.toNat, by omega⟩
  have hk : k < xs.length := by omega
  have ex : atI xs k = some xs[k] := by rw [atI_nat]; simp [hk]
  refine ⟨xs[k], m', List.getElem_mem hk, H', ?_⟩
  simp [g__law_some, ap_fnOf, b__law_some, e, ex, List.replicate]
theorem isint_ok (d : D) (S : Store) : g_is_integer [.d d] S = .ok (.d (.bool (isI d))) S := by
  cases d <;> simp [g_is_integer, ap_fnOf, b_is_integer, fIsi, isTy, isI]
theorem within_ok (d : D) (lo hi : Int) (S : Store) : g_is_within [.d d, .d (.int lo), .d (.int hi)] S = .ok (.d (.bool (inI lo hi d))) S := by
  cases d with
  | int i =>
    by_cases h : lo ≤ i <;> simp [g_is_within, ap_fnOf, b_is_within, isint_ok, isI, inI, h]
  | _ => simp [g_is_within, ap_fnOf, b_is_within, isint_ok, isI, inI]
theorem tupof_ok (d : D) (n : Int) (S : Store) : g_is_tuple_of [.d d, .d (.int n)] S = .ok (.d (.bool (match d with | .tuple ds => decide ((ds.length : Int) = n) | _ => false))) S := by
  cases d <;> simp [g_is_tuple_of, ap_fnOf, b_is_tuple_of, fIsi, isTy]
theorem ispress_ok (d : D) (S : Store) : g_is_pressure [.d d] S = .ok (.d (.bool (inI 900 1100 d))) S := by
  simp [g_is_pressure, ap_fnOf, b_is_pressure, within_ok]
theorem pressure_ok (d : D) (S : Store) : g_check_pressure [.d d] S = if inI 900 1100 d = true then .ok (.d .none) S else .ex NN S := by
  cases h : inI 900 1100 d <;> simp [g_check_pressure, ap_fnOf, b_check_pressure, ispress_ok, h, leave]
theorem height_ok (d : D) (S : Store) : g_check_height [.d d] S = if inI (-60000) 60000 d = true then .ok (.d .none) S else .ex NN S := by
  cases h : inI (-60000) 60000 d <;> simp [g_check_height, ap_fnOf, b_check_height, within_ok, h, leave]
def pairB : D → Bool
  | .tuple [x, y] => inI (-60000) 60000 x && inI 900 1100 y
  | _ => false
theorem pair_two (x y : D) (S : Store) : g_is_pair [.d (.tuple [x, y])] S = .ok (.d (.bool (inI (-60000) 60000 x && inI 900 1100 y))) S := by
  have tu : g_is_tuple_of [.d (.tuple [x, y]), .d (.int 2)] S = .ok (.d (.bool true)) S := tupof_ok _ _ _
  cases h : isI x with
  | false =>
    have e := inI_not (lo := -60000) (hi := 60000) h
    simp [g_is_pair, ap_fnOf, b_is_pair, tu, isint_ok, h, e, oIx, view, oPost, atI, ixN, leave]
  | true =>
    cases q : inI (-60000) 60000 x <;> simp [g_is_pair, ap_fnOf, b_is_pair, tu, isint_ok, h, within_ok, ispress_ok, q, oIx, view, oPost, atI, ixN, leave]
theorem pair_other {d : D} {S : Store} (h : g_is_tuple_of [.d d, .d (.int 2)] S = .ok (.d (.bool false)) S) : g_is_pair [.d d] S = .ok (.d (.bool false)) S := by
  simp [g_is_pair, ap_fnOf, b_is_pair, h, leave]
theorem pair_ok (d : D) (S : Store) : g_is_pair [.d d] S = .ok (.d (.bool (pairB d))) S := by
  cases d with
  | tuple ds =>
    match ds with
    | [] => exact pair_other (tupof_ok _ _ _)
    | [x] => exact pair_other (tupof_ok _ _ _)
    | [x, y] => exact pair_two x y S
    | x :: y :: z :: r =>
      refine pair_other ((tupof_ok _ _ _).trans ?_)
      have : ¬ (((x :: y :: z :: r).length : Nat) : Int) = 2 := by simp only [List.length_cons]; omega
      simp only [this, decide_false]
  | _ => exact pair_other (tupof_ok _ _ _)
def pairsB : D → Bool
  | .tuple ds => (decide (1 ≤ ds.length) && decide (ds.length ≤ 12)) && ds.all pairB
  | _ => false
theorem pairs_core {ds B : List D} {dl : Int} {c : Bool} {S : Store} (hd : (ds.length : Int) = dl) (lc : lcL (gN 1) tYesD l0_check_pairs [some (.d (.tuple ds)), none] ds [] S = .ok B S) (al : fAll [.d (.list B)] S = .ok (.d (.bool c)) S) : g_check_pairs [.d (.tuple ds)] S = if ((decide (1 ≤ dl) && decide (dl ≤ 12)) && c) = true then .ok (.d .none) S else .ex NS S := by
  by_cases h1 : 1 ≤ dl
  · by_cases h2 : dl ≤ 12
    · cases c <;> simp [g_check_pairs, ap_fnOf, b_check_pairs, fIsi, isTy, List.replicate, hd, h1, h2, seqOf, wipeE, lc, al, leave]
    · simp [g_check_pairs, ap_fnOf, b_check_pairs, fIsi, isTy, List.replicate, hd, h1, h2, leave]
  · simp [g_check_pairs, ap_fnOf, b_check_pairs, fIsi, isTy, List.replicate, hd, h1, leave]
theorem check_pairs_ok (d : D) (S : Store) (hl : ∀ ds, d = .tuple ds → ds.length ≤ 900) : g_check_pairs [.d d] S = if pairsB d = true then .ok (.d .none) S else .ex NS S := by
  cases d with
  | tuple ds =>
    have lc := lcL_flag (tg := gN 1) (f := l0_check_pairs) (ρ := [some (.d (.tuple ds)), none]) (S := S) pairB ds (fun x _ => ⟨_, rfl, by simp [l0_check_pairs, pair_ok]⟩) (by have := hl ds rfl; omega)
    have al := all_bools (ds.map pairB) S
    rw [List.all_map] at al
    have r := pairs_core (dl := (ds.length : Int)) rfl lc al
    rw [r]
    have e : pairsB (.tuple ds) = ((decide (1 ≤ (ds.length : Int)) && decide ((ds.length : Int) ≤ 12)) && ds.all (id ∘ pairB)) := by
      have e1 : decide (1 ≤ (ds.length : Int)) = decide (1 ≤ ds.length) := by congr 1; apply propext; omega
      have e2 : decide ((ds.length : Int) ≤ 12) = decide (ds.length ≤ 12) := by congr 1; apply propext; omega
      rw [e1, e2]
      rfl
    rw [e]
  | _ => simp [g_check_pairs, ap_fnOf, b_check_pairs, fIsi, isTy, List.replicate, pairsB, leave]
abbrev Pr := Int × Int
def pD (p : Pr) : D := .tuple [.int p.1, .int p.2]
structure OkP (p : Pr) : Prop where
  a : -60000 ≤ p.1 ∧ p.1 ≤ 60000
  b : 900 ≤ p.2 ∧ p.2 ≤ 1100
theorem OkP.ok {p : Pr} (h : OkP p) : pairB (pD p) = true := by
  show (inI (-60000) 60000 (.int p.1) && inI 900 1100 (.int p.2)) = true
  simp [inI, h.a, h.b]
def psD (ps : List Pr) : D := .tuple (ps.map pD)
structure OkPs (ps : List Pr) : Prop where
  l1 : 1 ≤ ps.length
  l2 : ps.length ≤ 12
  al : ∀ p ∈ ps, OkP p
theorem OkPs.check {ps : List Pr} (h : OkPs ps) (S : Store) : g_check_pairs [.d (psD ps)] S = .ok (.d .none) S := by
  have l1 := h.l1
  have l2 := h.l2
  have e : pairsB (psD ps) = true := by
    show ((decide (1 ≤ (ps.map pD).length) && decide ((ps.map pD).length ≤ 12)) && (ps.map pD).all pairB) = true
    rw [List.length_map, decide_eq_true l1, decide_eq_true l2, List.all_map]
    show ps.all (pairB ∘ pD) = true
    exact List.all_eq_true.mpr fun p hp => (h.al p hp).ok
  rw [check_pairs_ok _ _ (fun ds q => by unfold psD at q; cases q; simp; omega), e]
  rfl
theorem press_good {z : Int} (h : 900 ≤ z ∧ z ≤ 1100) (S : Store) : g_check_pressure [.d (.int z)] S = .ok (.d .none) S := by
  have e : inI 900 1100 (.int z) = true := by simp [inI, h]
  rw [pressure_ok, e]
  rfl
theorem high_good {z : Int} (h : -60000 ≤ z ∧ z ≤ 60000) (S : Store) : g_check_height [.d (.int z)] S = .ok (.d .none) S := by
  have e : inI (-60000) 60000 (.int z) = true := by simp [inI, h]
  rw [height_ok, e]
  rfl
theorem mul30 (i : Int) : mulOk 30 i = true := mulOk_l (by decide)
theorem mul100 (i : Int) : mulOk 100 i = true := mulOk_l (by decide)
def tru (p : Pr) (z : Int) : Int := p.1 - 30 * (p.2 - z)
theorem raw_ok {h p s : Int} {S : Store} : g_raw_true [.d (.int h), .d (.int p), .d (.int s)] S = .ok (.d (.int (h - 30 * (s - p)))) S := by
  simp [g_raw_true, ap_fnOf, b_raw_true, oMul_int, mul30]
theorem between_ok {p q : Pr} {z : Int} {S : Store} (hp : OkP p) (hq : OkP q) (hz : 900 ≤ z ∧ z ≤ 1100) : g_between [.d (pD p), .d (pD q), .d (.int z)] S = .ok (.d (.int ((tru p z - tru q z).natAbs : Nat))) S := by
  have a := pair_ok (pD p) S
  rw [hp.ok] at a
  have b := pair_ok (pD q) S
  rw [hq.ok] at b
  have c := press_good hz S
  have fl : forL (gN 3) l0_between [pD p, pD q] [some (.d (pD p)), some (.d (pD q)), some (.d (.int z)), none] S = .nx [some (.d (pD p)), some (.d (pD q)), some (.d (.int z)), some (.d (pD q))] S := by
    rw [ap_forL1]
    simp only [ap_gN, List.set_cons_succ, List.set_cons_zero]
    rw [show l0_between [some (.d (pD p)), some (.d (pD q)), some (.d (.int z)), some (.d (pD p))] S = .nx [some (.d (pD p)), some (.d (pD q)), some (.d (.int z)), some (.d (pD p))] S by simp [l0_between, a]]
    simp only
    rw [ap_forL1]
    simp only [ap_gN, List.set_cons_succ, List.set_cons_zero]
    rw [show l0_between [some (.d (pD p)), some (.d (pD q)), some (.d (.int z)), some (.d (pD q))] S = .nx [some (.d (pD p)), some (.d (pD q)), some (.d (.int z)), some (.d (pD q))] S by simp [l0_between, b]]
    rfl
  have key : b_between [some (.d (pD p)), some (.d (pD q)), some (.d (.int z)), none] S = .ret (.d (.int ((tru p z - tru q z).natAbs : Nat))) S := by
    rw [b_between, ap_sCons, ap_sFor]
    conv => lhs; arg 1; simp [seqOf]
    rw [fl, seq_nx, ap_sCons]
    conv => lhs; arg 1; simp [c]
    rw [seq_nx]
    simp [pD, oIx, view, oPost, atI, ixN, raw_ok, tru]
  rw [g_between, ap_fnOf, show List.map some [Vl.d (pD p), .d (pD q), .d (.int z)] ++ List.replicate (4 - [Vl.d (pD p), .d (pD q), Vl.d (.int z)].length) none = [some (.d (pD p)), some (.d (pD q)), some (.d (.int z)), none] from rfl, key]
  simp [leave]
abbrev Tp := Int × Nat × Nat
def dst (p q : Pr) : Int := ((p.1 - q.1 - 30 * (p.2 - q.2)).natAbs : Nat)
theorem dst_tru (p q : Pr) (z : Int) : ((tru p z - tru q z).natAbs : Int) = dst p q := by
  unfold dst tru
  congr 2
  omega
theorem dst_comm (p q : Pr) : dst p q = dst q p := by
  unfold dst
  omega
def atP (ps : List Pr) (i : Nat) : Pr := ps.getD i (0, 0)
theorem atP_lt {ps : List Pr} {i : Nat} (h : i < ps.length) : atP ps i = ps[i] := by simp [atP, h]
def apIn (ps : List Pr) (i : Nat) (js : List Nat) : List Tp := js.map fun j => (dst (atP ps i) (atP ps j), i, j)
def apOver (ps : List Pr) (is : List Nat) : List Tp := is.flatMap fun i => apIn ps i (List.range' (i + 1) (ps.length - (i + 1)))
def apL (ps : List Pr) : List Tp := apOver ps (List.range' 0 ps.length)
def tD (t : Tp) : D := .tuple [.int t.1, .int (t.2.1 : Nat), .int (t.2.2 : Nat)]
def kkD (t : Tp) : D := .tuple [.int t.1, .tuple [.int (t.2.1 : Nat), .int (t.2.2 : Nat)]]
def ltT (t u : Tp) : Bool := decide (t.1 < u.1 ∨ (t.1 = u.1 ∧ (t.2.1 < u.2.1 ∨ (t.2.1 = u.2.1 ∧ t.2.2 < u.2.2))))
def leT (t u : Tp) : Bool := !ltT u t
theorem dlt_cons_int (a b : Int) (xs ys : List D) : PyProof.Rows.lexLt PyProof.Rows.itemOrd (PySem.W.keyToksAll (.int a :: xs)) (PySem.W.keyToksAll (.int b :: ys)) = (decide (a < b) || (decide (a = b) && PyProof.Rows.lexLt PyProof.Rows.itemOrd (PySem.W.keyToksAll xs) (PySem.W.keyToksAll ys))) := by
  rw [PySem.W.dataLt_cons (by simp [PySem.W.alike])]
  have e : PyData.eqv (.int a) (.int b) = decide (a = b) := by
    rw [Bool.eq_iff_iff]
    simp [PyData.eqv]
  rw [e, PySem.W.dataLt_int]
  by_cases q : a = b
  · subst q; simp
  · simp [q]
theorem dlt_nil : PyProof.Rows.lexLt PyProof.Rows.itemOrd (PySem.W.keyToksAll []) (PySem.W.keyToksAll []) = false := by decide +kernel
theorem dlt_t (t u : Tp) : PySem.W.dataLt (tD t) (tD u) = ltT t u := by
  unfold tD
  rw [PySem.W.dataLt_tuple, dlt_cons_int, dlt_cons_int, dlt_cons_int, dlt_nil]
  unfold ltT
  rw [Bool.eq_iff_iff]
  simp
  omega
theorem dlt_k (t u : Tp) : PySem.W.dataLt (kkD t) (kkD u) = ltT t u := by
  unfold kkD
  rw [PySem.W.dataLt_pair (by simp [PySem.W.alike]) (by simp [PySem.W.alike, PySem.W.alikeAll]), PySem.W.dataLt_ii, PySem.W.dataLt_int]
  have e1 : PyData.eqv (.int t.1) (.int u.1) = decide (t.1 = u.1) := by
    rw [Bool.eq_iff_iff]
    simp [PyData.eqv]
  have e2 : PyData.eqv (.tuple [.int (t.2.1 : Nat), .int (t.2.2 : Nat)]) (.tuple [.int (u.2.1 : Nat), .int (u.2.2 : Nat)]) = (decide (t.2.1 = u.2.1) && decide (t.2.2 = u.2.2)) := by
    rw [Bool.eq_iff_iff]
    simp [PyData.eqv, PyData.eqvAll, BEq.beq]
    omega
  rw [e1, e2]
  unfold ltT
  rw [Bool.eq_iff_iff]
  by_cases q : t.1 = u.1
  · by_cases q2 : t.2.1 = u.2.1 ∧ t.2.2 = u.2.2
    · simp [q, q2.1, q2.2]
    · simp [q]
      omega
  · simp [q]
theorem leT_trans (a b c : Tp) (h1 : leT a b = true) (h2 : leT b c = true) : leT a c = true := by
  unfold leT ltT at *
  simp at *
  omega
theorem leT_total (a b : Tp) : (leT a b || leT b a) = true := by
  unfold leT ltT
  simp
  omega
theorem leT_refl (a : Tp) : leT a a = true := by
  unfold leT ltT
  simp
theorem leT_anti {a b : Tp} (h1 : leT a b = true) (h2 : leT b a = true) : a = b := by
  obtain ⟨x, i, j⟩ := a
  obtain ⟨y, k, l⟩ := b
  unfold leT ltT at *
  simp at *
  omega
theorem sort_tD (L : List Tp) : sortD (L.map tD) = (L.mergeSort leT).map tD := by
  unfold sortD
  rw [← List.map_mergeSort]
  intro a _ b _
  rw [PySem.W.dataLe_eq]
  show leT a b = (!PySem.W.dataLt (tD b) (tD a))
  rw [dlt_t]
  unfold leT
  rfl
theorem sort_head (L : List Tp) : (L.mergeSort leT).Perm L ∧ (L.mergeSort leT).Pairwise (fun a b => leT a b = true) :=
  ⟨List.mergeSort_perm _ _, List.pairwise_mergeSort leT_trans leT_total L⟩
theorem min_kkD : ∀ (L : List Tp) (x : Tp), ∃ m, PySem.W.minD (kkD x) (L.map kkD) = kkD m ∧ (m = x ∨ m ∈ L) ∧ leT m x = true ∧ ∀ y ∈ L, leT m y = true := by
  intro L
  induction L with
  | nil => exact fun x => ⟨x, rfl, .inl rfl, leT_refl x, by simp⟩
  | cons y L ih =>
    intro x
    have e : PySem.W.minD (kkD x) ((y :: L).map kkD) = PySem.W.minD (if ltT y x = true then kkD y else kkD x) (L.map kkD) := by
      show List.foldl _ _ _ = _
      rw [List.map_cons, List.foldl_cons, dlt_k]
      rfl
    by_cases q : ltT y x = true
    · rw [if_pos q] at e
      obtain ⟨m, h1, h2, h3, h4⟩ := ih y
      refine ⟨m, by rw [e, h1], ?_, ?_, fun z hz => ?_⟩
      · rcases h2 with h2 | h2
        · exact .inr (by rw [h2]; simp)
        · exact .inr (List.mem_cons_of_mem _ h2)
      · exact leT_trans m y x h3 (by unfold leT ltT at *; simp at *; omega)
      · rcases List.mem_cons.mp hz with rfl | hz
        · exact h3
        · exact h4 z hz
    · have q' : ltT y x = false := by simpa using q
      rw [if_neg q] at e
      obtain ⟨m, h1, h2, h3, h4⟩ := ih x
      refine ⟨m, by rw [e, h1], ?_, h3, fun z hz => ?_⟩
      · rcases h2 with h2 | h2
        · exact .inl h2
        · exact .inr (List.mem_cons_of_mem _ h2)
      · rcases List.mem_cons.mp hz with rfl | hz
        · exact leT_trans m x z h3 (by unfold leT; rw [q']; rfl)
        · exact h4 z hz
theorem head_min {x : Tp} {L : List Tp} {h : Tp} {r : List Tp} (e : (x :: L).mergeSort leT = h :: r) : PySem.W.minD (kkD x) (L.map kkD) = kkD h := by
  obtain ⟨m, h1, h2, h3, h4⟩ := min_kkD L x
  obtain ⟨p, s⟩ := sort_head (x :: L)
  rw [e] at p s
  have hm : m ∈ x :: L := by
    rcases h2 with h2 | h2
    · rw [h2]; simp
    · exact List.mem_cons_of_mem _ h2
  have hh : h ∈ x :: L := p.mem_iff.mp (by simp)
  have a1 : leT m h = true := by
    rcases List.mem_cons.mp hh with q | q
    · rw [q]; exact h3
    · exact h4 h q
  have a2 : leT h m = true := by
    have mm : m ∈ h :: r := p.mem_iff.mpr hm
    rcases List.mem_cons.mp mm with q | q
    · rw [q]; exact leT_refl h
    · exact (List.pairwise_cons.mp s).1 m q
  rw [h1, leT_anti a1 a2]
theorem alike_t (t u : Tp) : PySem.W.alike (tD t) (tD u) = true := by simp [tD, PySem.W.alike, PySem.W.alikeAll]
theorem alike_k (t u : Tp) : PySem.W.alike (kkD t) (kkD u) = true := by simp [kkD, PySem.W.alike, PySem.W.alikeAll]
theorem ok_tD (L : List Tp) : seqOk (L.map tD) = true ∧ sortB (L.map tD) = true := by
  have p : PyData.plainAll (L.map tD) = true ∧ PyData.depthAll (L.map tD) ≤ 2 := by
    induction L with
    | nil => simp [PyData.plainAll, PyData.depthAll]
    | cons t L ih =>
      have ih2 := ih.2
      simp [tD, PyData.plainAll, PyData.plain, PyData.depthAll, PyData.depth, ih.1]
      omega
  constructor
  · unfold seqOk
    simp [p.1]
    omega
  · have a : alikeOk (L.map tD) = true := by
      unfold alikeOk
      simp [alike_t, isNone, tD]
      simp [PySem.W.alike, PySem.W.alikeAll]
    unfold sortB
    rw [a]
    simp [tD]
theorem ok_kkD (L : List Tp) : seqOk (L.map kkD) = true ∧ alikeOk (L.map kkD) = true := by
  have p : PyData.plainAll (L.map kkD) = true ∧ PyData.depthAll (L.map kkD) ≤ 3 := by
    induction L with
    | nil => simp [PyData.plainAll, PyData.depthAll]
    | cons t L ih =>
      have ih2 := ih.2
      simp [kkD, PyData.plainAll, PyData.plain, PyData.depthAll, PyData.depth, ih.1]
      omega
  constructor
  · unfold seqOk
    simp [p.1]
    omega
  · unfold alikeOk
    simp [isNone, kkD]
    simp [PySem.W.alike, PySem.W.alikeAll]
set_option exponentiation.threshold 5000
def rgN (js : List Nat) : List D := js.map fun i => .int (i : Nat)
theorem rangeD_nat (a n : Nat) (h : a ≤ n) : rangeD (a : Int) (n : Int) = rgN (List.range' a (n - a)) := by
  unfold rangeD rgN
  rw [show ((n : Int) - (a : Int)).toNat = n - a by omega, List.range'_eq_map_range, List.map_map]
  simp [Function.comp]
theorem at_pD {ps : List Pr} {j : Nat} (h : j < ps.length) : atI (ps.map pD) (j : Nat) = some (pD (atP ps j)) := by
  rw [atI_nat, atP_lt h]
  simp [h]
theorem level_ok {p : Pr} {S : Store} : g_level_of [.d (pD p)] S = .ok (.d (.int (tru p 1013))) S := by
  simp [g_level_of, ap_fnOf, b_level_of, pD, oIx, view, oPost, atI, ixN, raw_ok, tru]
section
variable {S : Store} {ps : List Pr} {i j n : Int} {p q : Pr} {Xs js acc B : List D} {x4 : Option Vl}
theorem elt_core (h : atI Xs j = some (pD q)) {y1 : Vl} : l0_raw_apart [some (.d (.tuple Xs)), some y1, some (.d (.int i)), some (.d (pD p)), some (.d (.int j))] S = .ok (.d (.tuple [.int (dst p q), .int i, .int j])) S := by
  have e := dst_tru p q 1013
  rw [← e]
  simp [l0_raw_apart, level_ok, oIx, view, oPost, h]
theorem ext_core (rg : iRange (aCons (eBin (oAdd false) (eVar 2) (eD (.int 1))) (aCons (eCall fLen (aCons (eVar 0) aNil)) aNil)) [some (.d (.tuple Xs)), some (.loc S.length), some (.d (.int i)), some (.d (pD p)), x4] (S ++ [.lst acc]) = .ok js (S ++ [.lst acc]))
    (lc : lcL (gN 4) tYesD l0_raw_apart [some (.d (.tuple Xs)), some (.loc S.length), some (.d (.int i)), some (.d (pD p)), none] js [] (S ++ [.lst acc]) = .ok B (S ++ [.lst acc])) (hl : acc.length + B.length ≤ 900) :
    l1_raw_apart [some (.d (.tuple Xs)), some (.loc S.length), some (.d (.int i)), some (.d (pD p)), x4] (S ++ [.lst acc]) = .nx [some (.d (.tuple Xs)), some (.loc S.length), some (.d (.int i)), some (.d (pD p)), x4] (S ++ [.lst (acc ++ B)]) := by
  have sz : acc.length + B.length ≤ sizeLine := line1000 (by omega)
  have c0 : eLc false (iRange (aCons (eBin (oAdd false) (eVar 2) (eD (.int 1))) (aCons (eCall fLen (aCons (eVar 0) aNil)) aNil))) (gN 4) tYesD l0_raw_apart [4] [some (.d (.tuple Xs)), some (.loc S.length), some (.d (.int i)), some (.d (pD p)), x4] (S ++ [.lst acc]) = .ok (.d (.list B)) (S ++ [.lst acc]) := by
    rw [ap_eLc, rg, bind_ok, show wipeE [some (.d (.tuple Xs)), some (.loc S.length), some (.d (.int i)), some (.d (pD p)), x4] [4] = [some (.d (.tuple Xs)), some (.loc S.length), some (.d (.int i)), some (.d (pD p)), none] from rfl, lc]
    rfl
  rw [l1_raw_apart, ap_sExpr, ap_eExt, show eVar 1 [some (.d (.tuple Xs)), some (.loc S.length), some (.d (.int i)), some (.d (pD p)), x4] (S ++ [.lst acc]) = .ok (.loc S.length) (S ++ [.lst acc]) from rfl, bind_ok, c0]
  simp [isLst, putExt, view, sz]
theorem rng5 {x0 x1 x3 x4 : Option Vl} {f : Ev} {T : Store} (hf : f [x0, x1, some (.d (.int i)), x3, x4] T = .ok (.d (.int n)) T) (h1 : 0 ≤ i ∧ i ≤ 100) (h2 : 0 ≤ n ∧ n ≤ 100) : iRange (aCons (eBin (oAdd false) (eVar 2) (eD (.int 1))) (aCons f aNil)) [x0, x1, some (.d (.int i)), x3, x4] T = .ok (rangeD (i + 1) n) T := by
  have b1 : (-4611686018427387904 : Int) ≤ i + 1 := by omega
  have b2 : i + 1 < 4611686018427387904 := by omega
  have b3 : (-4611686018427387904 : Int) ≤ n := by omega
  have b4 : n < 4611686018427387904 := by omega
  simp [iRange, hf, b1, b2, b3, b4]
theorem len_p {x1 x2 x3 x4 : Option Vl} : eCall fLen (aCons (eVar 0) aNil) [some (.d (psD ps)), x1, x2, x3, x4] S = .ok (.d (.int (ps.length : Nat))) S := by
  simp [psD]
theorem apIn_len {ps : List Pr} {i : Nat} {js : List Nat} : (apIn ps i js).length = js.length := by simp [apIn]
theorem ra_step {k : Nat} (hk : k < ps.length) (hl : ps.length ≤ 12) (ha : acc.length ≤ 500) : l1_raw_apart [some (.d (psD ps)), some (.loc S.length), some (.d (.int (k : Nat))), some (.d (pD (atP ps k))), x4] (S ++ [.lst acc]) = .nx [some (.d (psD ps)), some (.loc S.length), some (.d (.int (k : Nat))), some (.d (pD (atP ps k))), x4] (S ++ [.lst (acc ++ (apIn ps k (List.range' (k + 1) (ps.length - (k + 1)))).map tD)]) := by
  have rg := rng5 (T := S ++ [.lst acc]) (x0 := some (.d (psD ps))) (x1 := some (.loc S.length)) (x3 := some (.d (pD (atP ps k)))) (x4 := x4) (i := (k : Int)) (n := (ps.length : Int)) (f := eCall fLen (aCons (eVar 0) aNil)) len_p (by omega) (by omega)
  rw [show (k : Int) + 1 = ((k + 1 : Nat) : Int) by omega, rangeD_nat (k + 1) ps.length (by omega)] at rg
  have lc := lcL_map (tg := gN 4) (f := l0_raw_apart) (ρ := [some (.d (psD ps)), some (.loc S.length), some (.d (.int (k : Nat))), some (.d (pD (atP ps k))), none]) (S := S ++ [.lst acc]) (fun j : Nat => .int (j : Nat)) (fun j => tD (dst (atP ps k) (atP ps j), k, j)) (List.range' (k + 1) (ps.length - (k + 1))) (fun j hj => by
    rw [List.mem_range'] at hj
    obtain ⟨c, h1, h2⟩ := hj
    exact ⟨_, rfl, elt_core (at_pD (by omega))⟩) (by rw [List.length_range']; omega)
  have e : (List.range' (k + 1) (ps.length - (k + 1))).map (fun j => tD (dst (atP ps k) (atP ps j), k, j)) = (apIn ps k (List.range' (k + 1) (ps.length - (k + 1)))).map tD := by
    unfold apIn
    rw [List.map_map]
    rfl
  rw [e] at lc
  exact ext_core rg lc (by rw [List.length_map, apIn_len, List.length_range']; omega)
theorem for_pair {x : Int} {p : Pr} {xs : List D} {sb : Sv} {T T' : Store} {x0 x1 x2 x3 x4 : Option Vl} (e : sb [x0, x1, some (.d (.int x)), some (.d (pD p)), x4] T = .nx [x0, x1, some (.d (.int x)), some (.d (pD p)), x4] T') : forL (gT [gN 2, gN 3]) sb (.tuple [.int x, pD p] :: xs) [x0, x1, x2, x3, x4] T = forL (gT [gN 2, gN 3]) sb xs [x0, x1, some (.d (.int x)), some (.d (pD p)), x4] T' := by
  rw [ap_forL1, show gT [gN 2, gN 3] (.d (.tuple [.int x, pD p])) [x0, x1, x2, x3, x4] = some [x0, x1, some (.d (.int x)), some (.d (pD p)), x4] from rfl]
  simp only [e]
theorem over_cons {is : List Nat} {k : Nat} : apOver ps (k :: is) = apIn ps k (List.range' (k + 1) (ps.length - (k + 1))) ++ apOver ps is := by simp [apOver]
theorem ra_loop (hl : ps.length ≤ 12) : ∀ (is : List Nat) (acc : List D) (x2 x3 : Option Vl), (∀ i ∈ is, i < ps.length) → acc.length + 13 * is.length ≤ 400 → ∃ y2 y3,
    forL (gT [gN 2, gN 3]) l1_raw_apart (is.map fun k => .tuple [.int (k : Nat), pD (atP ps k)]) [some (.d (psD ps)), some (.loc S.length), x2, x3, x4] (S ++ [.lst acc]) = .nx [some (.d (psD ps)), some (.loc S.length), y2, y3, x4] (S ++ [.lst (acc ++ (apOver ps is).map tD)]) := by
  intro is
  induction is with
  | nil => exact fun acc x2 x3 _ _ => ⟨x2, x3, by simp [apOver]⟩
  | cons k is ih =>
    intro acc x2 x3 h hA
    have hk := h k (by simp)
    have hA' : acc.length + 13 * (is.length + 1) ≤ 400 := hA
    have st := ra_step (S := S) (ps := ps) (acc := acc) (x4 := x4) hk hl (by omega)
    have fp := for_pair (xs := is.map fun k => .tuple [.int (k : Nat), pD (atP ps k)]) (x2 := x2) (x3 := x3) st
    obtain ⟨y2, y3, e⟩ := ih (acc ++ (apIn ps k (List.range' (k + 1) (ps.length - (k + 1)))).map tD) (some (.d (.int (k : Nat)))) (some (.d (pD (atP ps k)))) (fun i hi => h i (by simp [hi])) (by rw [List.length_append, List.length_map, apIn_len, List.length_range']; omega)
    refine ⟨y2, y3, ?_⟩
    rw [List.map_cons, fp, e, over_cons, List.map_append, List.append_assoc]
theorem enum_ps : enumD (ps.map pD) = (List.range' 0 ps.length).map fun k => .tuple [.int (k : Nat), pD (atP ps k)] := by
  unfold enumD
  apply List.ext_getElem
  · simp
  · intro k h1 h2
    simp at h1 h2
    simp [atP_lt h1]
end
theorem apart_core {C : D} {E L F : List D} {S : Store} (en : iEnumD (eVar 0) [some (.d C), some (.loc S.length), none, none, none] (S ++ [.lst []]) = .ok E (S ++ [.lst []])) (lp : ∃ y2 y3, forL (gT [gN 2, gN 3]) l1_raw_apart E [some (.d C), some (.loc S.length), none, none, none] (S ++ [.lst []]) = .nx [some (.d C), some (.loc S.length), y2, y3, none] (S ++ [.lst L])) (so : fSortL false [.loc S.length] (S ++ [.lst L]) = .ok (.d (.list F)) (S ++ [.lst L])) : g_raw_apart [.d C] S = .ok (.d (.list F)) S := by
  obtain ⟨y2, y3, e⟩ := lp
  have key : b_raw_apart [some (.d C), none, none, none, none] S = .ret (.d (.list F)) (S ++ [.lst L]) := by
    rw [b_raw_apart, ap_sCons]
    conv => lhs; arg 1; simp
    rw [seq_nx, ap_sCons, ap_sFor, en, st_ok, e, seq_nx]
    simp [so]
  rw [g_raw_apart, ap_fnOf, show List.map some [Vl.d C] ++ List.replicate (5 - [Vl.d C].length) none = [some (.d C), none, none, none, none] from rfl, key]
  simp [leave]
def srt (ps : List Pr) : List Tp := (apL ps).mergeSort leT
theorem apL_len {ps : List Pr} (hl : ps.length ≤ 12) : (apL ps).length ≤ 156 := by
  have : ∀ is : List Nat, (apOver ps is).length ≤ 12 * is.length := by
    intro is
    induction is with
    | nil => simp [apOver]
    | cons k is ih =>
      rw [over_cons, List.length_append, apIn_len, List.length_range', List.length_cons]
      omega
  have := this (List.range' 0 ps.length)
  rw [List.length_range'] at this
  unfold apL
  omega
theorem raw_apart_ok {ps : List Pr} {S : Store} (hl : ps.length ≤ 12) : g_raw_apart [.d (psD ps)] S = .ok (.d (.list ((srt ps).map tD))) S := by
  have lp := ra_loop (S := S) (ps := ps) (x4 := none) hl (List.range' 0 ps.length) [] none none (fun i hi => by rw [List.mem_range'] at hi; obtain ⟨c, h1, h2⟩ := hi; omega) (by rw [List.length_range']; simp; omega)
  rw [← enum_ps, List.nil_append] at lp
  refine apart_core (L := (apL ps).map tD) (by simp [psD, seqOf]) lp ?_
  have o := ok_tD (apL ps)
  have al := apL_len hl
  have sz : (apL ps).length ≤ sizeLine := line1000 (by omega)
  have st := sort_tD (apL ps)
  unfold srt
  rw [← st]
  have ll : ((apL ps).map tD).length = (apL ps).length := by simp
  show fSortL false [.loc S.length] (S ++ [.lst ((apL ps).map tD)]) = _
  generalize (apL ps).map tD = A at *
  simp [fSortL, view, o.1, o.2, ll, sz]
set_option exponentiation.threshold 5000
theorem lcL_bool {α : Type} {tg : Tg} {f : Ev} {ρ : Env} {S : Store} (dt : α → D) (p : α → Bool) (xs : List α) (h : ∀ x ∈ xs, ∃ ρ1, tg (.d (dt x)) ρ = some ρ1 ∧ f ρ1 S = .ok (.d (.bool (p x))) S) (hl : xs.length ≤ 1000) : ∃ B, lcL tg tYesD f ρ (xs.map dt) [] S = .ok B S ∧ fAll [.d (.list B)] S = .ok (.d (.bool (xs.all p))) S := by
  refine ⟨xs.map fun x => .bool (p x), lcL_map dt _ xs h hl, ?_⟩
  have := all_bools (xs.map p) S
  rw [List.all_map, List.map_map] at this
  exact this
theorem srt_perm (ps : List Pr) : (srt ps).Perm (apL ps) := (sort_head _).1
theorem perm_all {L M : List Tp} (h : L.Perm M) (p : Tp → Bool) : L.all p = M.all p := by
  rw [Bool.eq_iff_iff, List.all_eq_true, List.all_eq_true]
  exact ⟨fun a x hx => a x (h.mem_iff.mpr hx), fun a x hx => a x (h.mem_iff.mp hx)⟩
def keptB (ps : List Pr) (least : Int) : Bool := (apL ps).all fun t => decide (least ≤ t.1)
theorem kept_core {C : D} {F B : List D} {least K : Int} {c : Bool} {S : Store} (a : g_check_pairs [.d C] S = .ok (.d .none) S) (pw : ∀ S, oPow (.d (.int 10)) (.d (.int 40)) S = .ok (.d (.int K)) S) (w : g_is_within [.d (.int least), .d (.int 0), .d (.int K)] S = .ok (.d (.bool true)) S) (r : g_raw_apart [.d C] S = .ok (.d (.list F)) S) (lc : lcL (gT [gN 2, gN 3, gN 4]) tYesD l0_kept_apart [some (.d C), some (.d (.int least)), none, none, none] F [] S = .ok B S) (al : fAll [.d (.list B)] S = .ok (.d (.bool c)) S) : g_kept_apart [.d C, .d (.int least)] S = .ok (.d (.bool c)) S := by
  have key : b_kept_apart [some (.d C), some (.d (.int least)), none, none, none] S = .ret (.d (.bool c)) S := by
    rw [b_kept_apart, ap_sCons]
    conv => lhs; arg 1; simp [a]
    rw [seq_nx, ap_sCons]
    conv => lhs; arg 1; simp [pw, w]
    rw [seq_nx]
    simp [r, seqOf, wipeE, lc, al]
  rw [g_kept_apart, ap_fnOf, show List.map some [Vl.d C, .d (.int least)] ++ List.replicate (5 - [Vl.d C, Vl.d (.int least)].length) none = [some (.d C), some (.d (.int least)), none, none, none] from rfl, key]
  simp [leave]
theorem kept_ok {ps : List Pr} {least : Int} {S : Store} (h : OkPs ps) (hl : 0 ≤ least ∧ least ≤ 10 ^ 40) : g_kept_apart [.d (psD ps), .d (.int least)] S = .ok (.d (.bool (keptB ps least))) S := by
  have pw : ∀ S, oPow (.d (.int 10)) (.d (.int 40)) S = .ok (.d (.int (10 ^ 40))) S := fun S => by simp [oPow]
  have w := within_ok (.int least) 0 (10 ^ 40) S
  rw [show inI 0 (10 ^ 40) (.int least) = true from by unfold inI; exact decide_eq_true hl] at w
  have sl : (srt ps).length ≤ 156 := by rw [(srt_perm ps).length_eq]; exact apL_len h.l2
  obtain ⟨B, lc, al⟩ := lcL_bool (tg := gT [gN 2, gN 3, gN 4]) (f := l0_kept_apart) (ρ := [some (.d (psD ps)), some (.d (.int least)), none, none, none]) (S := S) tD (fun t => decide (least ≤ t.1)) (srt ps) (fun t _ => ⟨_, rfl, by simp [l0_kept_apart]⟩) (by omega)
  rw [perm_all (srt_perm ps)] at al
  exact kept_core (h.check S) pw w (raw_apart_ok h.l2) lc al
def nearD (ps : List Pr) : D := match srt ps with
  | [] => .none
  | t :: _ => .tuple [.int (t.2.1 : Nat), .int (t.2.2 : Nat)]
theorem near_core0 {C : D} {S : Store} (a : g_check_pairs [.d C] S = .ok (.d .none) S) (r : g_raw_apart [.d C] S = .ok (.d (.list [])) S) : g_nearest_two [.d C] S = .ok (.d .none) S := by
  simp [g_nearest_two, ap_fnOf, b_nearest_two, List.replicate, a, r, leave]
theorem near_core1 {C : D} {F : List D} {d i j : Int} {S : Store} (a : g_check_pairs [.d C] S = .ok (.d .none) S) (r : g_raw_apart [.d C] S = .ok (.d (.list (.tuple [.int d, .int i, .int j] :: F))) S) : g_nearest_two [.d C] S = .ok (.d (.tuple [.int i, .int j])) S := by
  have a0 : atI (.tuple [.int d, .int i, .int j] :: F) (0 : Int) = some (.tuple [.int d, .int i, .int j]) := by rw [show (0 : Int) = ((0 : Nat) : Int) from rfl, atI_nat]; rfl
  have lp : (0 : Int) < (F.length : Int) + 1 := by omega
  simp [g_nearest_two, ap_fnOf, b_nearest_two, List.replicate, a, r, oIx, view, oPost, a0, slV, cut_tail, lp, leave]
theorem near_ok {ps : List Pr} {S : Store} (h : OkPs ps) : g_nearest_two [.d (psD ps)] S = .ok (.d (nearD ps)) S := by
  have r := raw_apart_ok (S := S) h.l2
  unfold nearD
  cases q : srt ps with
  | nil => rw [q] at r; exact near_core0 (h.check S) r
  | cons t L => rw [q] at r; exact near_core1 (h.check S) r
def lvI (st : Int) : List Int := (List.range (Builtin.Range.rangeSize 0 501 st).toNat).map fun k : Nat => 0 + (k : Int) * st
theorem lvI_D (st : Int) : rangeC 0 st (Builtin.Range.rangeSize 0 501 st).toNat = iD (lvI st) := by
  unfold rangeC iD lvI
  rw [List.map_map]
  rfl
theorem step_all : ∀ k, k < 101 → 5 ≤ k → stepOk 0 501 ((k : Nat) : Int) = true ∧ (Builtin.Range.rangeSize 0 501 ((k : Nat) : Int)).toNat ≤ 101 := by decide +kernel
theorem step_good {st : Int} (h : 5 ≤ st ∧ st ≤ 100) : stepOk 0 501 st = true ∧ (lvI st).length ≤ 101 := by
  obtain ⟨k, rfl⟩ := Int.eq_ofNat_of_zero_le (show 0 ≤ st by omega)
  have := step_all k (by omega) (by omega)
  refine ⟨this.1, ?_⟩
  unfold lvI
  rw [List.length_map, List.length_range]
  exact this.2
def clearL (p lo hi st : Int) : List Int := (lvI st).filter fun l => decide (lo ≤ 100 * l - 30 * (1013 - p) ∧ 100 * l - 30 * (1013 - p) ≤ hi)
theorem rawl_ok {l p : Int} {S : Store} : g_raw_level [.d (.int l), .d (.int p)] S = .ok (.d (.int (100 * l - 30 * (1013 - p)))) S := by
  simp [g_raw_level, ap_fnOf, b_raw_level, oMul_int, mul100, raw_ok]
theorem clear_core {p lo hi st : Int} {R L : List D} {S : Store} (c1 : g_check_pressure [.d (.int p)] S = .ok (.d .none) S) (c2 : g_check_height [.d (.int lo)] S = .ok (.d .none) S) (c3 : g_check_height [.d (.int hi)] S = .ok (.d .none) S) (c4 : g_is_within [.d (.int st), .d (.int 5), .d (.int 100)] S = .ok (.d (.bool true)) S)
    (rg : iRangeC (aCons (eD (.int 0)) (aCons (eBin (oAdd false) (eD (.int 500)) (eD (.int 1))) (aCons (eVar 3) aNil))) [some (.d (.int p)), some (.d (.int lo)), some (.d (.int hi)), some (.d (.int st)), none] S = .ok R S) (lc : lcL (gN 4) l1_clear_levels l0_clear_levels [some (.d (.int p)), some (.d (.int lo)), some (.d (.int hi)), some (.d (.int st)), none] R [] S = .ok L S) : g_clear_levels [.d (.int p), .d (.int lo), .d (.int hi), .d (.int st)] S = .ok (.d (.tuple L)) S := by
  have key : b_clear_levels [some (.d (.int p)), some (.d (.int lo)), some (.d (.int hi)), some (.d (.int st)), none] S = .ret (.d (.tuple L)) S := by
    rw [b_clear_levels, ap_sCons]
    conv => lhs; arg 1; simp [c1]
    rw [seq_nx, ap_sCons]
    conv => lhs; arg 1; simp [c2]
    rw [seq_nx, ap_sCons]
    conv => lhs; arg 1; simp [c3]
    rw [seq_nx, ap_sCons]
    conv => lhs; arg 1; simp [c4]
    rw [seq_nx, ap_sRet, ap_eCall, ap_aCons, ap_eLc, rg, bind_ok, show wipeE [some (.d (.int p)), some (.d (.int lo)), some (.d (.int hi)), some (.d (.int st)), none] [4] = [some (.d (.int p)), some (.d (.int lo)), some (.d (.int hi)), some (.d (.int st)), none] from rfl, lc]
    simp [fTuple, seqOf]
  rw [g_clear_levels, ap_fnOf, show List.map some [Vl.d (.int p), .d (.int lo), .d (.int hi), .d (.int st)] ++ List.replicate (5 - [Vl.d (.int p), .d (.int lo), .d (.int hi), Vl.d (.int st)].length) none = [some (.d (.int p)), some (.d (.int lo)), some (.d (.int hi)), some (.d (.int st)), none] from rfl, key]
  simp [leave]
theorem clear_ok {p lo hi st : Int} {S : Store} (hp : 900 ≤ p ∧ p ≤ 1100) (h1 : -60000 ≤ lo ∧ lo ≤ 60000) (h2 : -60000 ≤ hi ∧ hi ≤ 60000) (hs : 5 ≤ st ∧ st ≤ 100) : g_clear_levels [.d (.int p), .d (.int lo), .d (.int hi), .d (.int st)] S = .ok (.d (.tuple (iD (clearL p lo hi st)))) S := by
  have c4 := within_ok (.int st) 5 100 S
  rw [show inI 5 100 (.int st) = true by simp [inI, hs]] at c4
  have sg := step_good hs
  have rg : iRangeC (aCons (eD (.int 0)) (aCons (eBin (oAdd false) (eD (.int 500)) (eD (.int 1))) (aCons (eVar 3) aNil))) [some (.d (.int p)), some (.d (.int lo)), some (.d (.int hi)), some (.d (.int st)), none] S = .ok (iD (lvI st)) S := by
    rw [← lvI_D]
    have so := sg.1
    simp [iRangeC, so]
  refine clear_core (press_good hp S) (high_good h1 S) (high_good h2 S) c4 rg (lcL_fm (tg := gN 4) (S := S) PyData.int (fun l => decide (lo ≤ 100 * l - 30 * (1013 - p) ∧ 100 * l - 30 * (1013 - p) ≤ hi)) PyData.int (lvI st) (fun x _ => ⟨_, rfl, ?_, by simp [l0_clear_levels]⟩) (by omega))
  by_cases q : lo ≤ 100 * x - 30 * (1013 - p) <;> simp [l1_clear_levels, rawl_ok, q]
set_option exponentiation.threshold 5000
theorem setting_ok {m : MO} {R : Store} (H : IsHand m) : ∃ z m', (900 ≤ z ∧ z ≤ 1100) ∧ IsHand m' ∧ g__law_setting [.loc 0] (m :: R) = .ok (.d (.int z)) (m' :: R) := by
  obtain ⟨r, m1, r0, r1, H1, e1⟩ := draw_ok 201 m R (by omega) (by omega) H
  exact ⟨900 + r, m1, by omega, H1, by simp [g__law_setting, ap_fnOf, b__law_setting, e1]⟩
theorem tall_ok {m : MO} {R : Store} (H : IsHand m) : ∃ z m', (-60000 ≤ z ∧ z ≤ 60000) ∧ IsHand m' ∧ g__law_height [.loc 0] (m :: R) = .ok (.d (.int z)) (m' :: R) := by
  obtain ⟨y, m1, hy, H1, e1⟩ := some_ok (xs := [.int 10, .int 3000, .int 60000]) (R := R) (by simp) (by simp) H
  obtain ⟨t, rfl, t0, t1⟩ : ∃ u : Int, y = .int u ∧ 1 ≤ u ∧ u ≤ 60000 := by
    simp at hy
    rcases hy with rfl | rfl | rfl <;> exact ⟨_, rfl, by decide, by decide⟩
  obtain ⟨r, m2, r0, r1, H2, e2⟩ := draw_ok (2 * t + 1) m1 R (by omega) (by omega) H1
  have mu : mulOk 2 t = true := mulOk_l (by decide)
  exact ⟨r - t, m2, by omega, H2, by simp [g__law_height, ap_fnOf, b__law_height, List.replicate, e1, oMul_int, mu, e2]⟩
theorem ltrue_ok {p : Pr} {z : Int} {S : Store} : g__law_true [.d (pD p), .d (.int z)] S = .ok (.d (.int (tru p z))) S := by
  simp [g__law_true, ap_fnOf, b__law_true, pD, oIx, view, oPost, atI, ixN, oMul_int, mul30, tru]
section
variable {m : MO} {S : Store} {z ba ta far : Int} {Xs Fp : List D} {x5 x6 x9 x10 x11 x12 x13 x14 x15 : Option Vl} {ps : List Pr}
theorem t0_ok (H : IsHand m) : ∃ z m', (900 ≤ z ∧ z ≤ 1100) ∧ IsHand m' ∧ t0__law_is_right [some (.loc 0), none, none, none, none, none, none, none, none, none, none, none, none, none, none, none] [m] = .nx [some (.loc 0), some (.d (.int z)), some (.loc 1), none, none, none, none, none, none, none, none, none, none, none, none, none] [m', .lst []] := by
  obtain ⟨z, m1, hz, H1, e1⟩ := setting_ok (R := []) H
  exact ⟨z, m1, hz, H1, by simp [t0__law_is_right, e1]⟩
theorem t1_ok (H : IsHand m) : ∃ ba ta m', (-30000 ≤ ba ∧ ba ≤ 30000) ∧ (1 ≤ ta ∧ ta ≤ 3000) ∧ IsHand m' ∧ t1__law_is_right [some (.loc 0), some (.d (.int z)), some (.loc 1), none, none, none, none, none, none, none, none, none, none, none, none, none] [m, .lst []] = .nx [some (.loc 0), some (.d (.int z)), some (.loc 1), some (.d (.int ba)), some (.d (.int ta)), none, none, none, none, none, none, none, none, none, none, none] [m', .lst []] := by
  obtain ⟨h, m1, hh, H1, e1⟩ := tall_ok (R := [.lst []]) H
  obtain ⟨y, m2, hy, H2, e2⟩ := some_ok (xs := [.int 3, .int 100, .int 3000]) (R := [.lst []]) (by simp) (by simp) H1
  obtain ⟨t, rfl, t0, t1⟩ : ∃ u : Int, y = .int u ∧ 1 ≤ u ∧ u ≤ 3000 := by
    simp at hy
    rcases hy with rfl | rfl | rfl <;> exact ⟨_, rfl, by decide, by decide⟩
  have dv := fun S => oDiv_int (S := S) (i := h) (j := 2) (by decide) (Int.lt_of_lt_of_le (by decide : (2 : Int) < 3) (by decide))
  exact ⟨h / 2, t, m2, by omega, ⟨t0, t1⟩, H2, by simp [t1__law_is_right, e1, e2, dv]⟩
theorem loop2 (hz : 900 ≤ z ∧ z ≤ 1100) (hb : -30000 ≤ ba ∧ ba ≤ 30000) (ht : 1 ≤ ta ∧ ta ≤ 3000) : ∀ (xs : List D) (m : MO) (ps : List Pr) (x5 x6 : Option Vl), IsHand m → (∀ p ∈ ps, OkP p) → ps.length + xs.length ≤ 20 → ∃ (m' : MO) (qs : List Pr) (y5 y6 : Option Vl), IsHand m' ∧ (∀ p ∈ qs, OkP p) ∧ qs.length = ps.length + xs.length ∧
    forL (gN 5) l0__law_is_right xs [some (.loc 0), some (.d (.int z)), some (.loc 1), some (.d (.int ba)), some (.d (.int ta)), x5, x6, none, none, none, none, none, none, none, none, none] [m, .lst (ps.map pD)] = .nx [some (.loc 0), some (.d (.int z)), some (.loc 1), some (.d (.int ba)), some (.d (.int ta)), y5, y6, none, none, none, none, none, none, none, none, none] [m', .lst (qs.map pD)] := by
  intro xs
  induction xs with
  | nil => exact fun m ps x5 x6 H h _ => ⟨m, ps, x5, x6, H, h, rfl, rfl⟩
  | cons x xs ih =>
    intro m ps x5 x6 H h hl
    have hl' : ps.length + (xs.length + 1) ≤ 20 := hl
    obtain ⟨s0, m1, hs0, H1, e1⟩ := setting_ok (R := [.lst (ps.map pD)]) H
    obtain ⟨y, m2, hy, H2, e2⟩ := some_ok (xs := [.int z, .int 1000, .int s0]) (R := [.lst (ps.map pD)]) (by simp) (by simp) H1
    obtain ⟨s, rfl, sa, sb⟩ : ∃ u : Int, y = .int u ∧ 900 ≤ u ∧ u ≤ 1100 := by
      simp at hy
      rcases hy with rfl | rfl | rfl <;> exact ⟨_, rfl, by omega, by omega⟩
    obtain ⟨a, m3, a0, a1, H3, e3⟩ := draw_ok ta m2 [.lst (ps.map pD)] (by omega) (by omega) H2
    obtain ⟨q, m4, q0, q1, H4, e4⟩ := draw_ok 2 m3 [.lst (ps.map pD)] (by omega) (by omega) H3
    have hq : q = 0 ∨ q = 1 := by omega
    have np : OkP (ba + a + 30 * (s - z) * q, s) := by
      refine ⟨?_, sa, sb⟩
      show -60000 ≤ ba + a + 30 * (s - z) * q ∧ ba + a + 30 * (s - z) * q ≤ 60000
      rcases hq with rfl | rfl <;> constructor <;> omega
    obtain ⟨m', qs, y5, y6, H', h', l', e⟩ := ih m4 (ps ++ [(ba + a + 30 * (s - z) * q, s)]) (some (.d x)) (some (.d (.int s))) H4 (fun p hp => by
      rcases List.mem_append.mp hp with hp | hp
      · exact h p hp
      · simp at hp; subst hp; exact np) (by simp; omega)
    refine ⟨m', qs, y5, y6, H', h', by rw [l']; simp; omega, ?_⟩
    have sz : (ps.map pD).length < sizeLine := Nat.lt_of_lt_of_le (by simp; omega) (line1000 (Nat.le_refl 1000))
    have mu : mulOk (30 * (s - z)) q = true := mulOk_r (by omega)
    have ap : (ps ++ [(ba + a + 30 * (s - z) * q, s)]).map pD = ps.map pD ++ [.tuple [.int (ba + a + 30 * (s - z) * q), .int s]] := by simp [pD]
    rw [ap] at e
    have st : l0__law_is_right [some (.loc 0), some (.d (.int z)), some (.loc 1), some (.d (.int ba)), some (.d (.int ta)), some (.d x), x6, none, none, none, none, none, none, none, none, none] [m, .lst (ps.map pD)] = .nx [some (.loc 0), some (.d (.int z)), some (.loc 1), some (.d (.int ba)), some (.d (.int ta)), some (.d x), some (.d (.int s)), none, none, none, none, none, none, none, none, none] [m4, .lst (ps.map pD ++ [.tuple [.int (ba + a + 30 * (s - z) * q), .int s]])] := by
      generalize ps.map pD = G at *
      simp [l0__law_is_right, e1, e2, isLst, e3, e4, oMul_int, mul30, mu, putApp, sz]
    rw [ap_forL1]
    simp only [ap_gN, List.set_cons_succ, List.set_cons_zero]
    rw [st]
    exact e
theorem t2_ok (hz : 900 ≤ z ∧ z ≤ 1100) (hb : -30000 ≤ ba ∧ ba ≤ 30000) (ht : 1 ≤ ta ∧ ta ≤ 3000) (H : IsHand m) : ∃ m' ps y5 y6, IsHand m' ∧ OkPs ps ∧ t2__law_is_right [some (.loc 0), some (.d (.int z)), some (.loc 1), some (.d (.int ba)), some (.d (.int ta)), none, none, none, none, none, none, none, none, none, none, none] [m, .lst []] = .nx [some (.loc 0), some (.d (.int z)), some (.loc 1), some (.d (.int ba)), some (.d (.int ta)), y5, y6, none, none, none, none, none, none, none, none, none] [m', .lst (ps.map pD)] := by
  obtain ⟨r, m1, r0, r1, H1, e1⟩ := draw_ok 7 m [.lst []] (by omega) (by omega) H
  have lr : (rangeD 0 (1 + r)).length = (1 + r).toNat := by simp [rangeD]
  obtain ⟨m', qs, y5, y6, H', h', l', e⟩ := loop2 hz hb ht (rangeD 0 (1 + r)) m1 [] none none H1 (by simp) (by rw [lr]; simp; omega)
  refine ⟨m', qs, y5, y6, H', ⟨by rw [l', lr]; simp; omega, by rw [l', lr]; simp; omega, h'⟩, ?_⟩
  have b1 : (-4611686018427387904 : Int) ≤ 1 + r := by omega
  have b2 : 1 + r < 4611686018427387904 := by omega
  rw [t2__law_is_right, ap_sFor]
  conv => lhs; arg 1; simp [e1, iRange, b1, b2]
  exact e
theorem t3_ok : t3__law_is_right [some (.loc 0), some (.d (.int z)), some (.loc 1), some (.d (.int ba)), some (.d (.int ta)), x5, x6, none, none, none, none, none, none, none, none, none] [m, .lst Xs] = .nx [some (.loc 0), some (.d (.int z)), some (.loc 1), some (.d (.int ba)), some (.d (.int ta)), x5, x6, some (.d (.tuple Xs)), none, none, none, none, none, none, none, none] [m, .lst Xs] := by
  simp [t3__law_is_right, fTuple, seqOf, view]
theorem t4_ok : t4__law_is_right [some (.loc 0), some (.d (.int z)), some (.loc 1), some (.d (.int ba)), some (.d (.int ta)), x5, x6, some (.d (.tuple Xs)), none, none, none, none, none, none, none, none] [m, .lst Fp] = .nx [some (.loc 0), some (.d (.int z)), some (.loc 1), some (.d (.int ba)), some (.d (.int ta)), x5, x6, some (.d (.tuple Xs)), some (.loc 2), none, none, none, none, none, none, none] [m, .lst Fp, .lst []] := by
  simp [t4__law_is_right]
theorem l1_core {p q : Pr} {i j : Int} {acc : List D} (h1 : atI Xs i = some (pD p)) (h2 : atI Xs j = some (pD q)) (hl : acc.length ≤ 900) : l1__law_is_right [some (.loc 0), some (.d (.int z)), some (.loc 1), some (.d (.int ba)), some (.d (.int ta)), x5, x6, some (.d (.tuple Xs)), some (.loc 2), some (.d (.int i)), some (.d (.int j)), none, none, none, none, none] [m, .lst Fp, .lst acc] = .nx [some (.loc 0), some (.d (.int z)), some (.loc 1), some (.d (.int ba)), some (.d (.int ta)), x5, x6, some (.d (.tuple Xs)), some (.loc 2), some (.d (.int i)), some (.d (.int j)), none, none, none, none, none] [m, .lst Fp, .lst (acc ++ [.tuple [.int (dst p q), .tuple [.int i, .int j]]])] := by
  have sz : acc.length < sizeLine := Nat.lt_of_lt_of_le (by omega) (line1000 (Nat.le_refl 1000))
  have e := dst_tru p q z
  rw [← e]
  simp [l1__law_is_right, isLst, oIx, view, oPost, h1, h2, ltrue_ok, putApp, sz]
theorem l1_loop {i : Nat} (hi : i < ps.length) (hl : ps.length ≤ 12) : ∀ (js : List Nat) (acc : List D) (x10 : Option Vl), (∀ j ∈ js, j < ps.length) → acc.length + js.length ≤ 900 → ∃ y10, forL (gN 10) l1__law_is_right (rgN js) [some (.loc 0), some (.d (.int z)), some (.loc 1), some (.d (.int ba)), some (.d (.int ta)), x5, x6, some (.d (.tuple (ps.map pD))), some (.loc 2), some (.d (.int (i : Nat))), x10, none, none, none, none, none] [m, .lst Fp, .lst acc] = .nx [some (.loc 0), some (.d (.int z)), some (.loc 1), some (.d (.int ba)), some (.d (.int ta)), x5, x6, some (.d (.tuple (ps.map pD))), some (.loc 2), some (.d (.int (i : Nat))), y10, none, none, none, none, none] [m, .lst Fp, .lst (acc ++ (apIn ps i js).map kkD)] := by
  intro js
  induction js with
  | nil => exact fun acc x10 _ _ => ⟨x10, by simp [apIn, rgN]⟩
  | cons j js ih =>
    intro acc x10 h hA
    have hA' : acc.length + (js.length + 1) ≤ 900 := hA
    have hj := h j (by simp)
    have st := l1_core (m := m) (Fp := Fp) (z := z) (ba := ba) (ta := ta) (x5 := x5) (x6 := x6) (acc := acc) (at_pD hi) (at_pD hj) (by omega)
    obtain ⟨y10, e⟩ := ih (acc ++ [.tuple [.int (dst (atP ps i) (atP ps j)), .tuple [.int (i : Nat), .int (j : Nat)]]]) (some (.d (.int (j : Nat)))) (fun k hk => h k (by simp [hk])) (by simp; omega)
    refine ⟨y10, ?_⟩
    rw [show rgN (j :: js) = .int (j : Nat) :: rgN js from rfl, ap_forL1]
    simp only [ap_gN, List.set_cons_succ, List.set_cons_zero]
    rw [st]
    simp only
    rw [e, List.append_assoc]
    rfl
theorem rngI {i n : Int} {f : Ev} {T : Store} (hf : f [some (.loc 0), some (.d (.int z)), some (.loc 1), some (.d (.int ba)), some (.d (.int ta)), x5, x6, some (.d (.tuple Xs)), some (.loc 2), some (.d (.int i)), x10, none, none, none, none, none] T = .ok (.d (.int n)) T) (h1 : 0 ≤ i ∧ i ≤ 100) (h2 : 0 ≤ n ∧ n ≤ 100) : iRange (aCons (eBin (oAdd false) (eVar 9) (eD (.int 1))) (aCons f aNil)) [some (.loc 0), some (.d (.int z)), some (.loc 1), some (.d (.int ba)), some (.d (.int ta)), x5, x6, some (.d (.tuple Xs)), some (.loc 2), some (.d (.int i)), x10, none, none, none, none, none] T = .ok (rangeD (i + 1) n) T := by
  have b1 : (-4611686018427387904 : Int) ≤ i + 1 := by omega
  have b2 : i + 1 < 4611686018427387904 := by omega
  have b3 : (-4611686018427387904 : Int) ≤ n := by omega
  have b4 : n < 4611686018427387904 := by omega
  simp [iRange, hf, b1, b2, b3, b4]
theorem rngO {n : Int} {f : Ev} {T : Store} (hf : f [some (.loc 0), some (.d (.int z)), some (.loc 1), some (.d (.int ba)), some (.d (.int ta)), x5, x6, some (.d (.tuple Xs)), some (.loc 2), none, none, none, none, none, none, none] T = .ok (.d (.int n)) T) (h2 : 0 ≤ n ∧ n ≤ 100) : iRange (aCons f aNil) [some (.loc 0), some (.d (.int z)), some (.loc 1), some (.d (.int ba)), some (.d (.int ta)), x5, x6, some (.d (.tuple Xs)), some (.loc 2), none, none, none, none, none, none, none] T = .ok (rangeD 0 n) T := by
  have b3 : (-4611686018427387904 : Int) ≤ n := by omega
  have b4 : n < 4611686018427387904 := by omega
  simp [iRange, hf, b3, b4]
theorem l2_core {x : Int} {Rg acc acc' : List D} {y10 : Option Vl} (rg : iRange (aCons (eBin (oAdd false) (eVar 9) (eD (.int 1))) (aCons (eCall fLen (aCons (eVar 7) aNil)) aNil)) [some (.loc 0), some (.d (.int z)), some (.loc 1), some (.d (.int ba)), some (.d (.int ta)), x5, x6, some (.d (.tuple Xs)), some (.loc 2), some (.d (.int x)), x10, none, none, none, none, none] [m, .lst Fp, .lst acc] = .ok Rg [m, .lst Fp, .lst acc]) (lp : forL (gN 10) l1__law_is_right Rg [some (.loc 0), some (.d (.int z)), some (.loc 1), some (.d (.int ba)), some (.d (.int ta)), x5, x6, some (.d (.tuple Xs)), some (.loc 2), some (.d (.int x)), x10, none, none, none, none, none] [m, .lst Fp, .lst acc] = .nx [some (.loc 0), some (.d (.int z)), some (.loc 1), some (.d (.int ba)), some (.d (.int ta)), x5, x6, some (.d (.tuple Xs)), some (.loc 2), some (.d (.int x)), y10, none, none, none, none, none] [m, .lst Fp, .lst acc']) {xs : List D} : forL (gN 9) l2__law_is_right (.int x :: xs) [some (.loc 0), some (.d (.int z)), some (.loc 1), some (.d (.int ba)), some (.d (.int ta)), x5, x6, some (.d (.tuple Xs)), some (.loc 2), x9, x10, none, none, none, none, none] [m, .lst Fp, .lst acc] = forL (gN 9) l2__law_is_right xs [some (.loc 0), some (.d (.int z)), some (.loc 1), some (.d (.int ba)), some (.d (.int ta)), x5, x6, some (.d (.tuple Xs)), some (.loc 2), some (.d (.int x)), y10, none, none, none, none, none] [m, .lst Fp, .lst acc'] := by
  have st : l2__law_is_right [some (.loc 0), some (.d (.int z)), some (.loc 1), some (.d (.int ba)), some (.d (.int ta)), x5, x6, some (.d (.tuple Xs)), some (.loc 2), some (.d (.int x)), x10, none, none, none, none, none] [m, .lst Fp, .lst acc] = .nx [some (.loc 0), some (.d (.int z)), some (.loc 1), some (.d (.int ba)), some (.d (.int ta)), x5, x6, some (.d (.tuple Xs)), some (.loc 2), some (.d (.int x)), y10, none, none, none, none, none] [m, .lst Fp, .lst acc'] := by
    rw [l2__law_is_right, ap_sFor, rg, st_ok, lp]
  rw [ap_forL1]
  simp only [ap_gN, List.set_cons_succ, List.set_cons_zero, st]
theorem l2_loop (hl : ps.length ≤ 12) : ∀ (is : List Nat) (acc : List D) (x9 x10 : Option Vl), (∀ i ∈ is, i < ps.length) → acc.length + 13 * is.length ≤ 400 → ∃ y9 y10, forL (gN 9) l2__law_is_right (rgN is) [some (.loc 0), some (.d (.int z)), some (.loc 1), some (.d (.int ba)), some (.d (.int ta)), x5, x6, some (.d (.tuple (ps.map pD))), some (.loc 2), x9, x10, none, none, none, none, none] [m, .lst Fp, .lst acc] = .nx [some (.loc 0), some (.d (.int z)), some (.loc 1), some (.d (.int ba)), some (.d (.int ta)), x5, x6, some (.d (.tuple (ps.map pD))), some (.loc 2), y9, y10, none, none, none, none, none] [m, .lst Fp, .lst (acc ++ (apOver ps is).map kkD)] := by
  intro is
  induction is with
  | nil => exact fun acc x9 x10 _ _ => ⟨x9, x10, by simp [apOver, rgN]⟩
  | cons i is ih =>
    intro acc x9 x10 h hA
    have hi := h i (by simp)
    have hA' : acc.length + 13 * (is.length + 1) ≤ 400 := hA
    have rg := rngI (T := [m, .lst Fp, .lst acc]) (z := z) (ba := ba) (ta := ta) (x5 := x5) (x6 := x6) (x10 := x10) (Xs := ps.map pD) (i := (i : Int)) (n := (ps.length : Int)) (f := eCall fLen (aCons (eVar 7) aNil)) (by simp) (by omega) (by omega)
    rw [show (i : Int) + 1 = ((i + 1 : Nat) : Int) by omega, rangeD_nat (i + 1) ps.length (by omega)] at rg
    obtain ⟨y10, lp⟩ := l1_loop (m := m) (Fp := Fp) (z := z) (ba := ba) (ta := ta) (x5 := x5) (x6 := x6) (ps := ps) hi hl (List.range' (i + 1) (ps.length - (i + 1))) acc x10 (fun j hj => by rw [List.mem_range'] at hj; obtain ⟨c, h1, h2⟩ := hj; omega) (by rw [List.length_range']; omega)
    obtain ⟨z9, z10, e⟩ := ih (acc ++ (apIn ps i (List.range' (i + 1) (ps.length - (i + 1)))).map kkD) (some (.d (.int (i : Nat)))) y10 (fun k hk => h k (by simp [hk])) (by rw [List.length_append, List.length_map, apIn_len, List.length_range']; omega)
    have st := l2_core (x9 := x9) (xs := rgN is) rg lp
    refine ⟨z9, z10, ?_⟩
    rw [show rgN (i :: is) = .int (i : Nat) :: rgN is from rfl, st, e, over_cons, List.map_append, List.append_assoc]
theorem t5_ok (hl : ps.length ≤ 12) : ∃ y9 y10, t5__law_is_right [some (.loc 0), some (.d (.int z)), some (.loc 1), some (.d (.int ba)), some (.d (.int ta)), x5, x6, some (.d (.tuple (ps.map pD))), some (.loc 2), none, none, none, none, none, none, none] [m, .lst Fp, .lst []] = .nx [some (.loc 0), some (.d (.int z)), some (.loc 1), some (.d (.int ba)), some (.d (.int ta)), x5, x6, some (.d (.tuple (ps.map pD))), some (.loc 2), y9, y10, none, none, none, none, none] [m, .lst Fp, .lst ((apL ps).map kkD)] := by
  obtain ⟨y9, y10, e⟩ := l2_loop (m := m) (Fp := Fp) (z := z) (ba := ba) (ta := ta) (x5 := x5) (x6 := x6) (ps := ps) hl (List.range' 0 ps.length) [] none none (fun i hi => by rw [List.mem_range'] at hi; obtain ⟨c, h1, h2⟩ := hi; omega) (by rw [List.length_range']; simp; omega)
  have rg := rngO (T := [m, .lst Fp, .lst []]) (z := z) (ba := ba) (ta := ta) (x5 := x5) (x6 := x6) (Xs := ps.map pD) (n := (ps.length : Int)) (f := eCall fLen (aCons (eVar 7) aNil)) (by simp) (by omega)
  rw [show (0 : Int) = ((0 : Nat) : Int) from rfl, rangeD_nat 0 ps.length (by omega)] at rg
  refine ⟨y9, y10, ?_⟩
  rw [t5__law_is_right, ap_sFor, rg, st_ok]
  exact e
end
set_option exponentiation.threshold 5000
theorem bdi {i : Int} (h : -1000000 ≤ i ∧ i ≤ 1000000) : Bd 1900 i := by
  unfold Bd
  exact Nat.lt_of_lt_of_le (show i.natAbs < 2 ^ 40 by omega) (Nat.pow_le_pow_right (by decide) (by decide))
theorem rpi {i : Int} (h : -1000000 ≤ i ∧ i ≤ 1000000) : Rp 1921 0 (.int i) := rp_int (bdi h)
theorem rep_bool (b : Bool) (S : Store) : ∃ x : Str, fReprX [.d (.bool b)] S = .ok (.d (.str x)) S := ⟨_, rp_reprX (rp_bool b) (by decide) (by decide)⟩
theorem rep_two {i j : Int} (hi : -1000000 ≤ i ∧ i ≤ 1000000) (hj : -1000000 ≤ j ∧ j ≤ 1000000) (S : Store) : (∃ x : Str, fReprX [.d (.tuple [.int i, .int j])] S = .ok (.d (.str x)) S) ∧ ∃ x : Str, fReprX [.d (.list [.int i, .int j])] S = .ok (.d (.str x)) S := by
  have h : ∀ d ∈ [PyData.int i, .int j], Rp 1921 0 d := fun d hd => by
    simp only [List.mem_cons, List.not_mem_nil, or_false] at hd
    rcases hd with rfl | rfl
    · exact rpi hi
    · exact rpi hj
  exact ⟨⟨_, rp_reprX (rp_tup h) (by simp) (by decide)⟩, ⟨_, rp_reprX (rp_list h) (by simp) (by decide)⟩⟩
theorem rep_none (S : Store) : ∃ x : Str, fReprX [.d .none] S = .ok (.d (.str x)) S := ⟨_, rp_reprX rp_none (by decide) (by decide)⟩
theorem dst_bd {p q : Pr} (hp : OkP p) (hq : OkP q) : 0 ≤ dst p q ∧ dst p q ≤ 200000 := by
  have := hp.a
  have := hp.b
  have := hq.a
  have := hq.b
  unfold dst
  omega
theorem ap_mem {ps : List Pr} {t : Tp} (h : t ∈ apL ps) : t.2.1 < ps.length ∧ t.2.2 < ps.length ∧ t.1 = dst (atP ps t.2.1) (atP ps t.2.2) := by
  unfold apL apOver apIn at h
  rw [List.mem_flatMap] at h
  obtain ⟨i, hi, h⟩ := h
  rw [List.mem_map] at h
  obtain ⟨j, hj, rfl⟩ := h
  rw [List.mem_range'] at hi hj
  obtain ⟨a, h1, h2⟩ := hi
  obtain ⟨b, h3, h4⟩ := hj
  exact ⟨by show i < _; omega, by show j < _; omega, rfl⟩
theorem okp_at {ps : List Pr} (h : OkPs ps) {i : Nat} (hi : i < ps.length) : OkP (atP ps i) := by
  rw [atP_lt hi]
  exact h.al _ (List.getElem_mem hi)
section
variable {m : MO} {S : Store} {z ba ta far : Int} {Xs Fp A : List D} {N : D} {x5 x6 x9 x10 x11 x12 x13 x14 x15 : Option Vl} {ps : List Pr}
theorem t6_ok {x : Str} (h1 : g_nearest_two [.d (.tuple Xs)] S = .ok (.d N) S) (h2 : eIf (tOf (eBin oGt (eCall fLen (aCons (eVar 8) aNil)) (eD (.int 0)))) (eBin oIx (eCall fMin1 (aCons (eVar 8) aNil)) (eD (.int 1))) (eD .none) [some (.loc 0), some (.d (.int z)), some (.loc 1), some (.d (.int ba)), some (.d (.int ta)), x5, x6, some (.d (.tuple Xs)), some (.loc 2), x9, x10, none, none, none, none, none] S = .ok (.d N) S) (h3 : fReprX [.d N] S = .ok (.d (.str x)) S) : t6__law_is_right [some (.loc 0), some (.d (.int z)), some (.loc 1), some (.d (.int ba)), some (.d (.int ta)), x5, x6, some (.d (.tuple Xs)), some (.loc 2), x9, x10, none, none, none, none, none] S = .nx [some (.loc 0), some (.d (.int z)), some (.loc 1), some (.d (.int ba)), some (.d (.int ta)), x5, x6, some (.d (.tuple Xs)), some (.loc 2), x9, x10, none, none, none, none, none] S := by
  have c1 : eCallN 1 g_nearest_two (aCons (eVar 7) aNil) [some (.loc 0), some (.d (.int z)), some (.loc 1), some (.d (.int ba)), some (.d (.int ta)), x5, x6, some (.d (.tuple Xs)), some (.loc 2), x9, x10, none, none, none, none, none] S = .ok (.d N) S := by simp [h1]
  have d1 : eCall fReprX (aCons (eCallN 1 g_nearest_two (aCons (eVar 7) aNil)) aNil) [some (.loc 0), some (.d (.int z)), some (.loc 1), some (.d (.int ba)), some (.d (.int ta)), x5, x6, some (.d (.tuple Xs)), some (.loc 2), x9, x10, none, none, none, none, none] S = .ok (.d (.str x)) S := by rw [ap_eCall, ap_aCons, c1]; simp [h3]
  have d2 : eCall fReprX (aCons (eIf (tOf (eBin oGt (eCall fLen (aCons (eVar 8) aNil)) (eD (.int 0)))) (eBin oIx (eCall fMin1 (aCons (eVar 8) aNil)) (eD (.int 1))) (eD .none)) aNil) [some (.loc 0), some (.d (.int z)), some (.loc 1), some (.d (.int ba)), some (.d (.int ta)), x5, x6, some (.d (.tuple Xs)), some (.loc 2), x9, x10, none, none, none, none, none] S = .ok (.d (.str x)) S := by rw [ap_eCall, ap_aCons, h2]; simp [h3]
  rw [t6__law_is_right, ap_sIf, ap_tOf, ap_eBin, d1, bind_ok, d2]
  simp
theorem near_exp : eIf (tOf (eBin oGt (eCall fLen (aCons (eVar 8) aNil)) (eD (.int 0)))) (eBin oIx (eCall fMin1 (aCons (eVar 8) aNil)) (eD (.int 1))) (eD .none) [some (.loc 0), some (.d (.int z)), some (.loc 1), some (.d (.int ba)), some (.d (.int ta)), x5, x6, some (.d (.tuple Xs)), some (.loc 2), x9, x10, none, none, none, none, none] [m, .lst Fp, .lst ((apL ps).map kkD)] = .ok (.d (nearD ps)) [m, .lst Fp, .lst ((apL ps).map kkD)] := by
  have sp := srt_perm ps
  unfold nearD
  cases q : apL ps with
  | nil =>
    rw [q] at sp
    rw [List.perm_nil.mp sp]
    simp [fLen, view]
  | cons x L =>
    cases q2 : srt ps with
    | nil =>
      rw [q, q2] at sp
      exact absurd sp.symm.eq_nil (by simp)
    | cons h r =>
      have hm := head_min (x := x) (L := L) (h := h) (r := r) (by rw [← q]; exact q2)
      have o := ok_kkD (x :: L)
      rw [List.map_cons] at o ⊢
      have mn : fMin1 [.loc 2] [m, .lst Fp, .lst (kkD x :: L.map kkD)] = .ok (.d (kkD h)) [m, .lst Fp, .lst (kkD x :: L.map kkD)] := by
        simp [fMin1, fSeq, view, seqOf, o.1, o.2, hm]
      have lp : (0 : Int) < ((L.map kkD).length : Int) + 1 := by omega
      have fl : fLen [.loc 2] [m, .lst Fp, .lst (kkD x :: L.map kkD)] = .ok (.d (.int (((L.map kkD).length : Int) + 1))) [m, .lst Fp, .lst (kkD x :: L.map kkD)] := by simp [fLen, view]
      generalize L.map kkD = LL at *
      simp [fl, lp, mn]
      simp [kkD, oIx, view, oPost, atI, ixN]
theorem l3_core {p q : Pr} {i j : Int} {x : Str} (h1 : atI Xs i = some (pD p)) (h2 : atI Xs j = some (pD q)) (hp : OkP p) (hq : OkP q) (hz : 900 ≤ z ∧ z ≤ 1100) (rp : fReprX [.d (.list [.int (dst p q), .int (dst p q)])] S = .ok (.d (.str x)) S) : l3__law_is_right [some (.loc 0), some (.d (.int z)), some (.loc 1), some (.d (.int ba)), some (.d (.int ta)), x5, x6, some (.d (.tuple Xs)), some (.loc 2), some (.d (.int i)), some (.d (.int j)), some (.d (.int (dst p q))), x12, x13, none, none] S = .nx [some (.loc 0), some (.d (.int z)), some (.loc 1), some (.d (.int ba)), some (.d (.int ta)), x5, x6, some (.d (.tuple Xs)), some (.loc 2), some (.d (.int i)), some (.d (.int j)), some (.d (.int (dst p q))), some (.d (pD p)), some (.d (pD q)), none, none] S := by
  have b1 := between_ok (S := S) hp hq hz
  have b2 := between_ok (S := S) hq hp hz
  rw [dst_tru] at b1 b2
  rw [dst_comm q p] at b2
  generalize dst p q = dd at *
  rw [l3__law_is_right, ap_sCons]
  conv => lhs; arg 1; simp [oIx, view, oPost, h1, h2]
  rw [seq_nx]
  simp [b1, b2, rp]
theorem t7_loop (h : OkPs ps) (hz : 900 ≤ z ∧ z ≤ 1100) : ∀ (ts : List Tp) (x9 x10 x11 x12 x13 : Option Vl), (∀ t ∈ ts, t ∈ apL ps) → ∃ y9 y10 y11 y12 y13, forL (gT [gN 11, gT [gN 9, gN 10]]) l3__law_is_right (ts.map kkD) [some (.loc 0), some (.d (.int z)), some (.loc 1), some (.d (.int ba)), some (.d (.int ta)), x5, x6, some (.d (.tuple (ps.map pD))), some (.loc 2), x9, x10, x11, x12, x13, none, none] S = .nx [some (.loc 0), some (.d (.int z)), some (.loc 1), some (.d (.int ba)), some (.d (.int ta)), x5, x6, some (.d (.tuple (ps.map pD))), some (.loc 2), y9, y10, y11, y12, y13, none, none] S := by
  intro ts
  induction ts with
  | nil => exact fun x9 x10 x11 x12 x13 _ => ⟨x9, x10, x11, x12, x13, rfl⟩
  | cons t ts ih =>
    intro x9 x10 x11 x12 x13 hm
    obtain ⟨t1, t2, t3⟩ := ap_mem (hm t (by simp))
    have o1 := okp_at h t1
    have o2 := okp_at h t2
    have db := dst_bd o1 o2
    obtain ⟨x, rp⟩ := (rep_two (i := dst (atP ps t.2.1) (atP ps t.2.2)) (j := dst (atP ps t.2.1) (atP ps t.2.2)) (by omega) (by omega) S).2
    have st := l3_core (Xs := ps.map pD) (z := z) (ba := ba) (ta := ta) (x5 := x5) (x6 := x6) (x12 := x12) (x13 := x13) (at_pD t1) (at_pD t2) o1 o2 hz rp
    obtain ⟨y9, y10, y11, y12, y13, e⟩ := ih (some (.d (.int (t.2.1 : Nat)))) (some (.d (.int (t.2.2 : Nat)))) (some (.d (.int (dst (atP ps t.2.1) (atP ps t.2.2))))) (some (.d (pD (atP ps t.2.1)))) (some (.d (pD (atP ps t.2.2)))) (fun u hu => hm u (by simp [hu]))
    refine ⟨y9, y10, y11, y12, y13, ?_⟩
    rw [List.map_cons, ap_forL1, show gT [gN 11, gT [gN 9, gN 10]] (.d (kkD t)) [some (.loc 0), some (.d (.int z)), some (.loc 1), some (.d (.int ba)), some (.d (.int ta)), x5, x6, some (.d (.tuple (ps.map pD))), some (.loc 2), x9, x10, x11, x12, x13, none, none] = some [some (.loc 0), some (.d (.int z)), some (.loc 1), some (.d (.int ba)), some (.d (.int ta)), x5, x6, some (.d (.tuple (ps.map pD))), some (.loc 2), some (.d (.int (t.2.1 : Nat))), some (.d (.int (t.2.2 : Nat))), some (.d (.int t.1)), x12, x13, none, none] from rfl, t3]
    simp only [st]
    exact e
theorem take_cut {j : Nat} {ds : List D} : cutD ds none (some (j : Int)) = ds.take j := by
  unfold cutD
  rw [HT.sIx_none, HT.sIx_nat]
  by_cases h : j ≤ ds.length
  · rw [Nat.min_eq_left h]; simp
  · rw [Nat.min_eq_right (by omega)]
    simp
    rw [List.take_of_length_le (by omega)]
theorem t7_ok (h : OkPs ps) (hz : 900 ≤ z ∧ z ≤ 1100) : ∃ y9 y10 y11 y12 y13, t7__law_is_right [some (.loc 0), some (.d (.int z)), some (.loc 1), some (.d (.int ba)), some (.d (.int ta)), x5, x6, some (.d (.tuple (ps.map pD))), some (.loc 2), x9, x10, none, none, none, none, none] [m, .lst Fp, .lst ((apL ps).map kkD)] = .nx [some (.loc 0), some (.d (.int z)), some (.loc 1), some (.d (.int ba)), some (.d (.int ta)), x5, x6, some (.d (.tuple (ps.map pD))), some (.loc 2), y9, y10, y11, y12, y13, none, none] [m, .lst Fp, .lst ((apL ps).map kkD)] := by
  obtain ⟨y9, y10, y11, y12, y13, e⟩ := t7_loop (S := [m, .lst Fp, .lst ((apL ps).map kkD)]) (z := z) (ba := ba) (ta := ta) (x5 := x5) (x6 := x6) h hz ((apL ps).take 4) x9 x10 none none none (fun t ht => List.mem_of_mem_take ht)
  refine ⟨y9, y10, y11, y12, y13, ?_⟩
  have ct : cutD ((apL ps).map kkD) none (some 4) = ((apL ps).take 4).map kkD := by
    rw [show (4 : Int) = ((4 : Nat) : Int) from rfl, take_cut, List.map_take]
  have it : iSeq (eSl false (eVar 8) pNo (pAt (eD (.int 4)))) [some (.loc 0), some (.d (.int z)), some (.loc 1), some (.d (.int ba)), some (.d (.int ta)), x5, x6, some (.d (.tuple (ps.map pD))), some (.loc 2), x9, x10, none, none, none, none, none] [m, .lst Fp, .lst ((apL ps).map kkD)] = .ok (((apL ps).take 4).map kkD) [m, .lst Fp, .lst ((apL ps).map kkD)] := by
    generalize ((apL ps).take 4).map kkD = T4 at *
    generalize (apL ps).map kkD = A1 at *
    simp [slV, view, ct, seqOf]
  rw [t7__law_is_right, ap_sFor, it, st_ok]
  exact e
theorem l6_core {least : Int} {c : Bool} {x : Str} {B : List D} {o3 : MO} (ho : o3 = .lst A ∨ o3 = .fz (.list A)) (h1 : ∀ S, g_kept_apart [.d (.tuple Xs), .d (.int least)] S = .ok (.d (.bool c)) S) (h2 : ∀ S, fReprX [.d (.bool c)] S = .ok (.d (.str x)) S) (lc : lcL (gT [gN 11, gN 15]) tYesD l5__law_is_right [some (.loc 0), some (.d (.int z)), some (.loc 1), some (.d (.int ba)), some (.d (.int ta)), x5, x6, some (.d (.tuple Xs)), some (.loc 2), x9, x10, none, x12, x13, some (.d (.int least)), none] A [] [m, .lst Fp, .fz (.list A)] = .ok B [m, .lst Fp, .fz (.list A)]) (al : fAll [.d (.list B)] [m, .lst Fp, .fz (.list A)] = .ok (.d (.bool c)) [m, .lst Fp, .fz (.list A)]) : l6__law_is_right [some (.loc 0), some (.d (.int z)), some (.loc 1), some (.d (.int ba)), some (.d (.int ta)), x5, x6, some (.d (.tuple Xs)), some (.loc 2), x9, x10, x11, x12, x13, some (.d (.int least)), none] [m, .lst Fp, o3] = .nx [some (.loc 0), some (.d (.int z)), some (.loc 1), some (.d (.int ba)), some (.d (.int ta)), x5, x6, some (.d (.tuple Xs)), some (.loc 2), x9, x10, x11, x12, x13, some (.d (.int least)), none] [m, .lst Fp, .fz (.list A)] := by
  have it : iSeq (eVar 8) [some (.loc 0), some (.d (.int z)), some (.loc 1), some (.d (.int ba)), some (.d (.int ta)), x5, x6, some (.d (.tuple Xs)), some (.loc 2), x9, x10, x11, x12, x13, some (.d (.int least)), none] [m, .lst Fp, o3] = .ok A [m, .lst Fp, .fz (.list A)] := by
    rcases ho with rfl | rfl
    · simp [fr, seqOf]
    · simp [fr, seqOf]
  have c0 : eLc false (iSeq (eVar 8)) (gT [gN 11, gN 15]) tYesD l5__law_is_right [11, 15] [some (.loc 0), some (.d (.int z)), some (.loc 1), some (.d (.int ba)), some (.d (.int ta)), x5, x6, some (.d (.tuple Xs)), some (.loc 2), x9, x10, x11, x12, x13, some (.d (.int least)), none] [m, .lst Fp, o3] = .ok (.d (.list B)) [m, .lst Fp, .fz (.list A)] := by
    rw [ap_eLc, it, bind_ok, show wipeE [some (.loc 0), some (.d (.int z)), some (.loc 1), some (.d (.int ba)), some (.d (.int ta)), x5, x6, some (.d (.tuple Xs)), some (.loc 2), x9, x10, x11, x12, x13, some (.d (.int least)), none] [11, 15] = [some (.loc 0), some (.d (.int z)), some (.loc 1), some (.d (.int ba)), some (.d (.int ta)), x5, x6, some (.d (.tuple Xs)), some (.loc 2), x9, x10, none, x12, x13, some (.d (.int least)), none] from rfl, lc]
    rfl
  have d1 : eCall fReprX (aCons (eCallN 2 g_kept_apart (aCons (eVar 7) (aCons (eVar 14) aNil))) aNil) [some (.loc 0), some (.d (.int z)), some (.loc 1), some (.d (.int ba)), some (.d (.int ta)), x5, x6, some (.d (.tuple Xs)), some (.loc 2), x9, x10, x11, x12, x13, some (.d (.int least)), none] [m, .lst Fp, o3] = .ok (.d (.str x)) [m, .lst Fp, o3] := by simp [h1, h2]
  have d2 : eCall fReprX (aCons (eCall fAll (aCons (eLc false (iSeq (eVar 8)) (gT [gN 11, gN 15]) tYesD l5__law_is_right [11, 15]) aNil)) aNil) [some (.loc 0), some (.d (.int z)), some (.loc 1), some (.d (.int ba)), some (.d (.int ta)), x5, x6, some (.d (.tuple Xs)), some (.loc 2), x9, x10, x11, x12, x13, some (.d (.int least)), none] [m, .lst Fp, o3] = .ok (.d (.str x)) [m, .lst Fp, .fz (.list A)] := by
    rw [ap_eCall, ap_aCons, ap_eCall, ap_aCons, c0]
    simp [al, h2]
  rw [l6__law_is_right, ap_sIf, ap_tOf, ap_eBin, d1, bind_ok, d2]
  simp
theorem l6_loop (h : OkPs ps) : ∀ (ls : List Int) (o3 : MO) (x14 : Option Vl), (o3 = .lst ((apL ps).map kkD) ∨ o3 = .fz (.list ((apL ps).map kkD))) → (∀ l ∈ ls, 0 ≤ l ∧ l ≤ 10 ^ 40) → ∃ o4 y14, forL (gN 14) l6__law_is_right (iD ls) [some (.loc 0), some (.d (.int z)), some (.loc 1), some (.d (.int ba)), some (.d (.int ta)), x5, x6, some (.d (.tuple (ps.map pD))), some (.loc 2), x9, x10, x11, x12, x13, x14, none] [m, .lst Fp, o3] = .nx [some (.loc 0), some (.d (.int z)), some (.loc 1), some (.d (.int ba)), some (.d (.int ta)), x5, x6, some (.d (.tuple (ps.map pD))), some (.loc 2), x9, x10, x11, x12, x13, y14, none] [m, .lst Fp, o4] := by
  intro ls
  induction ls with
  | nil => exact fun o3 x14 _ _ => ⟨o3, x14, rfl⟩
  | cons l ls ih =>
    intro o3 x14 ho hb
    obtain ⟨o4, y14, e⟩ := ih (.fz (.list ((apL ps).map kkD))) (some (.d (.int l))) (.inr rfl) (fun k hk => hb k (by simp [hk]))
    refine ⟨o4, y14, ?_⟩
    have al' := apL_len h.l2
    obtain ⟨B, lc, al⟩ := lcL_bool (tg := gT [gN 11, gN 15]) (f := l5__law_is_right) (ρ := [some (.loc 0), some (.d (.int z)), some (.loc 1), some (.d (.int ba)), some (.d (.int ta)), x5, x6, some (.d (.tuple (ps.map pD))), some (.loc 2), x9, x10, none, x12, x13, some (.d (.int l)), none]) (S := [m, .lst Fp, .fz (.list ((apL ps).map kkD))]) kkD (fun t => decide (l ≤ t.1)) (apL ps) (fun t _ => ⟨_, rfl, by simp [l5__law_is_right]⟩) (by omega)
    have rx2 : ∀ S, fReprX [.d (.bool (keptB ps l))] S = .ok (.d (.str (PyData.shown (.bool (keptB ps l))))) S := fun S => rp_reprX (rp_bool _) (by decide) (by decide)
    have st := l6_core (Fp := Fp) (m := m) (z := z) (ba := ba) (ta := ta) (x5 := x5) (x6 := x6) (x9 := x9) (x10 := x10) (x11 := x11) (x12 := x12) (x13 := x13) (Xs := ps.map pD) ho (fun S => kept_ok h (hb l (by simp))) rx2 lc al
    rw [show iD (l :: ls) = .int l :: iD ls from rfl, ap_forL1]
    simp only [ap_gN, List.set_cons_succ, List.set_cons_zero]
    rw [st]
    exact e
end
set_option exponentiation.threshold 5000
section
variable {m : MO} {S : Store} {z ba ta far : Int} {Xs Fp A : List D} {N : D} {x5 x6 x9 x10 x11 x12 x13 x14 x15 : Option Vl} {ps : List Pr}
theorem least_lc {A2 : List Int} {lst : D} {T : Store} {r : Int} {m1 : MO} (e1 : g__law_draw [.loc 0, .d (.int 300)] [m, .lst Fp, .lst A] = .ok (.d (.int r)) [m1, .lst Fp, .lst A]) (ct : cutD A none (some 2) = Xs) (lc : lcL (gT [gN 11, gN 15]) tYesD l4__law_is_right [some (.loc 0), some (.d (.int z)), some (.loc 1), some (.d (.int ba)), some (.d (.int ta)), x5, x6, some (.d (.tuple Ys)), some (.loc 2), x9, x10, none, x12, x13, none, none] Xs [] [m1, .lst Fp, .lst A] = .ok (iD A2) [m1, .lst Fp, .lst A]) (hl : A2.length ≤ 100) : iSeq (eBin (oAdd false) (eLst false (aCons (eD (.int 0)) (aCons (eD (.int 1)) (aCons (eCallN 2 g__law_draw (aCons (eVar 0) (aCons (eD (.int 300)) aNil))) aNil)))) (eLc false (iSeq (eSl false (eVar 8) pNo (pAt (eD (.int 2))))) (gT [gN 11, gN 15]) tYesD l4__law_is_right [11, 15])) [some (.loc 0), some (.d (.int z)), some (.loc 1), some (.d (.int ba)), some (.d (.int ta)), x5, x6, some (.d (.tuple Ys)), some (.loc 2), x9, x10, x11, x12, x13, none, none] [m, .lst Fp, .lst A] = .ok (iD (0 :: 1 :: r :: A2)) [m1, .lst Fp, .lst A] := by
  have c0 : eLc false (iSeq (eSl false (eVar 8) pNo (pAt (eD (.int 2))))) (gT [gN 11, gN 15]) tYesD l4__law_is_right [11, 15] [some (.loc 0), some (.d (.int z)), some (.loc 1), some (.d (.int ba)), some (.d (.int ta)), x5, x6, some (.d (.tuple Ys)), some (.loc 2), x9, x10, x11, x12, x13, none, none] [m1, .lst Fp, .lst A] = .ok (.d (.list (iD A2))) [m1, .lst Fp, .lst A] := by
    have it : iSeq (eSl false (eVar 8) pNo (pAt (eD (.int 2)))) [some (.loc 0), some (.d (.int z)), some (.loc 1), some (.d (.int ba)), some (.d (.int ta)), x5, x6, some (.d (.tuple Ys)), some (.loc 2), x9, x10, x11, x12, x13, none, none] [m1, .lst Fp, .lst A] = .ok Xs [m1, .lst Fp, .lst A] := by simp [slV, view, ct, seqOf]
    rw [ap_eLc, it, bind_ok, show wipeE [some (.loc 0), some (.d (.int z)), some (.loc 1), some (.d (.int ba)), some (.d (.int ta)), x5, x6, some (.d (.tuple Ys)), some (.loc 2), x9, x10, x11, x12, x13, none, none] [11, 15] = [some (.loc 0), some (.d (.int z)), some (.loc 1), some (.d (.int ba)), some (.d (.int ta)), x5, x6, some (.d (.tuple Ys)), some (.loc 2), x9, x10, none, x12, x13, none, none] from rfl, lc]
    rfl
  have l0 : eLst false (aCons (eD (.int 0)) (aCons (eD (.int 1)) (aCons (eCallN 2 g__law_draw (aCons (eVar 0) (aCons (eD (.int 300)) aNil))) aNil))) [some (.loc 0), some (.d (.int z)), some (.loc 1), some (.d (.int ba)), some (.d (.int ta)), x5, x6, some (.d (.tuple Ys)), some (.loc 2), x9, x10, x11, x12, x13, none, none] [m, .lst Fp, .lst A] = .ok (.d (.list [.int 0, .int 1, .int r])) [m1, .lst Fp, .lst A] := by simp [e1]
  have sz : 3 + (iD A2).length ≤ sizeLine := line1000 (by rw [iD_len]; omega)
  have ee : iD (0 :: 1 :: r :: A2) = [.int 0, .int 1, .int r] ++ iD A2 := rfl
  rw [ap_iSeq, ap_eBin, l0, bind_ok, c0, ee]
  generalize iD A2 = Y at *
  simp [oAdd, sz, seqOf]
theorem t8_ok (h : OkPs ps) (H : IsHand m) : ∃ m' o4 y14, IsHand m' ∧ t8__law_is_right [some (.loc 0), some (.d (.int z)), some (.loc 1), some (.d (.int ba)), some (.d (.int ta)), x5, x6, some (.d (.tuple (ps.map pD))), some (.loc 2), x9, x10, x11, x12, x13, none, none] [m, .lst Fp, .lst ((apL ps).map kkD)] = .nx [some (.loc 0), some (.d (.int z)), some (.loc 1), some (.d (.int ba)), some (.d (.int ta)), x5, x6, some (.d (.tuple (ps.map pD))), some (.loc 2), x9, x10, x11, x12, x13, y14, none] [m', .lst Fp, o4] := by
  obtain ⟨r, m1, r0, r1, H1, e1⟩ := draw_ok 300 m [.lst Fp, .lst ((apL ps).map kkD)] (by omega) (by omega) H
  have ct : cutD ((apL ps).map kkD) none (some 2) = ((apL ps).take 2).map kkD := by
    rw [show (2 : Int) = ((2 : Nat) : Int) from rfl, take_cut, List.map_take]
  have lc := lcL_map (tg := gT [gN 11, gN 15]) (f := l4__law_is_right) (ρ := [some (.loc 0), some (.d (.int z)), some (.loc 1), some (.d (.int ba)), some (.d (.int ta)), x5, x6, some (.d (.tuple (ps.map pD))), some (.loc 2), x9, x10, none, x12, x13, none, none]) (S := [m1, .lst Fp, .lst ((apL ps).map kkD)]) kkD (fun t => .int t.1) ((apL ps).take 2) (fun t _ => ⟨_, rfl, by simp [l4__law_is_right]⟩) (by simp; omega)
  rw [show ((apL ps).take 2).map (fun t => PyData.int t.1) = iD (((apL ps).take 2).map (·.1)) by unfold iD; rw [List.map_map]; rfl] at lc
  have it := least_lc (x11 := x11) (lst := .none) (T := []) e1 ct lc (by simp; omega)
  obtain ⟨o4, y14, e⟩ := l6_loop (m := m1) (Fp := Fp) (z := z) (ba := ba) (ta := ta) (x5 := x5) (x6 := x6) (x9 := x9) (x10 := x10) (x11 := x11) (x12 := x12) (x13 := x13) h (0 :: 1 :: r :: ((apL ps).take 2).map (·.1)) (.lst ((apL ps).map kkD)) none (.inl rfl) (fun l hl => by
    have big : (1000000 : Int) ≤ 10 ^ 40 := by decide
    rcases List.mem_cons.mp hl with rfl | hl
    · exact ⟨by decide, by decide⟩
    · rcases List.mem_cons.mp hl with rfl | hl
      · exact ⟨by decide, by decide⟩
      · rcases List.mem_cons.mp hl with rfl | hl
        · exact ⟨r0, Int.le_trans (show l ≤ 1000000 by omega) big⟩
        · obtain ⟨t, ht, rfl⟩ := List.mem_map.mp hl
          obtain ⟨t1, t2, t3⟩ := ap_mem (List.mem_of_mem_take ht)
          have db := dst_bd (okp_at h t1) (okp_at h t2)
          rw [← t3] at db
          exact ⟨db.1, Int.le_trans (show t.1 ≤ 1000000 by omega) big⟩)
  refine ⟨m1, o4, y14, H1, ?_⟩
  rw [t8__law_is_right, ap_sFor, it, st_ok]
  exact e
theorem t9_ok (h : OkPs ps) (hz : 900 ≤ z ∧ z ≤ 1100) : t9__law_is_right [some (.loc 0), some (.d (.int z)), some (.loc 1), some (.d (.int ba)), some (.d (.int ta)), x5, x6, some (.d (.tuple (ps.map pD))), some (.loc 2), x9, x10, x11, x12, x13, x14, none] S = .ret (.d (.bool true)) S := by
  have l1 := h.l1
  have a := at_pD (ps := ps) (j := 0) (by omega)
  have o := okp_at h (i := 0) (by omega)
  have b := between_ok (S := S) o o hz
  rw [show (((tru (atP ps 0) z - tru (atP ps 0) z).natAbs : Nat) : Int) = 0 by rw [Int.sub_self]; rfl] at b
  rw [show ((0 : Nat) : Int) = 0 from rfl] at a
  generalize ps.map pD = X at *
  simp [t9__law_is_right, oIx, view, oPost, a, b]
theorem is_right_ok (H : IsHand m) : ∃ m', IsHand m' ∧ g__law_is_right [.loc 0] [m] = .ok (.d (.bool true)) [m'] := by
  obtain ⟨z, m1, hz, H1, e0⟩ := t0_ok H
  obtain ⟨ba, ta, m2, hb, ht, H2, e1⟩ := t1_ok (z := z) H1
  obtain ⟨m3, ps, y5, y6, H3, ok, e2⟩ := t2_ok hz hb ht H2
  have e3 := t3_ok (m := m3) (z := z) (ba := ba) (ta := ta) (x5 := y5) (x6 := y6) (Xs := ps.map pD)
  have e4 := t4_ok (m := m3) (z := z) (ba := ba) (ta := ta) (x5 := y5) (x6 := y6) (Xs := ps.map pD) (Fp := ps.map pD)
  obtain ⟨y9, y10, e5⟩ := t5_ok (m := m3) (z := z) (ba := ba) (ta := ta) (x5 := y5) (x6 := y6) (Fp := ps.map pD) ok.l2
  have nx : ∃ x : Str, fReprX [.d (nearD ps)] [m3, .lst (ps.map pD), .lst ((apL ps).map kkD)] = .ok (.d (.str x)) [m3, .lst (ps.map pD), .lst ((apL ps).map kkD)] := by
    unfold nearD
    cases q : srt ps with
    | nil => exact rep_none _
    | cons t L =>
      have hm : t ∈ apL ps := (srt_perm ps).mem_iff.mp (by rw [q]; simp)
      obtain ⟨t1, t2, _⟩ := ap_mem hm
      have l2 := ok.l2
      exact (rep_two (by omega) (by omega) _).1
  obtain ⟨x, rx⟩ := nx
  have e6 := t6_ok (z := z) (ba := ba) (ta := ta) (x5 := y5) (x6 := y6) (x9 := y9) (x10 := y10) (near_ok ok) near_exp rx
  obtain ⟨w9, w10, w11, w12, w13, e7⟩ := t7_ok (m := m3) (ba := ba) (ta := ta) (x5 := y5) (x6 := y6) (x9 := y9) (x10 := y10) (Fp := ps.map pD) ok hz
  obtain ⟨m4, o4, y14, H4, e8⟩ := t8_ok (z := z) (ba := ba) (ta := ta) (x5 := y5) (x6 := y6) (x9 := w9) (x10 := w10) (x11 := w11) (x12 := w12) (x13 := w13) (Fp := ps.map pD) ok H3
  have e9 := t9_ok (S := [m4, .lst (ps.map pD), o4]) (ba := ba) (ta := ta) (x5 := y5) (x6 := y6) (x9 := w9) (x10 := w10) (x11 := w11) (x12 := w12) (x13 := w13) (x14 := y14) ok hz
  refine ⟨m4, H4, ?_⟩
  have key : b__law_is_right [some (.loc 0), none, none, none, none, none, none, none, none, none, none, none, none, none, none, none] [m] = .ret (.d (.bool true)) [m4, .lst (ps.map pD), o4] := by
    rw [b__law_is_right, ap_sCons, e0, seq_nx, ap_sCons, e1, seq_nx, ap_sCons, e2, seq_nx, ap_sCons, e3, seq_nx, ap_sCons, e4, seq_nx, ap_sCons, e5, seq_nx, ap_sCons]
    rw [show t6__law_is_right [some (.loc 0), some (.d (.int z)), some (.loc 1), some (.d (.int ba)), some (.d (.int ta)), y5, y6, some (.d (.tuple (ps.map pD))), some (.loc 2), y9, y10, none, none, none, none, none] [m3, .lst (ps.map pD), .lst ((apL ps).map kkD)] = .nx [some (.loc 0), some (.d (.int z)), some (.loc 1), some (.d (.int ba)), some (.d (.int ta)), y5, y6, some (.d (.tuple (ps.map pD))), some (.loc 2), y9, y10, none, none, none, none, none] [m3, .lst (ps.map pD), .lst ((apL ps).map kkD)] from e6, seq_nx, ap_sCons, e7, seq_nx, ap_sCons, e8, seq_nx, e9]
  rw [g__law_is_right, ap_fnOf, show List.map some [Vl.loc 0] ++ List.replicate (16 - [Vl.loc 0].length) none = [some (.loc 0), none, none, none, none, none, none, none, none, none, none, none, none, none, none, none] from rfl, key]
  rfl
end
theorem levels_ok {m : MO} (H : IsHand m) : ∃ m', IsHand m' ∧ g__law_are_levels_right [.loc 0] [m] = .ok (.d (.bool true)) [m'] := by
  obtain ⟨p, m1, hp, H1, e1⟩ := setting_ok (R := []) H
  obtain ⟨r, m2, r0, r1, H2, e2⟩ := draw_ok 96 m1 [] (by omega) (by omega) H1
  obtain ⟨lo, m3, hlo, H3, e3⟩ := tall_ok (R := []) H2
  obtain ⟨y, m4, hy, H4, e4⟩ := some_ok (xs := [.int 200, .int 20000]) (R := []) (by simp) (by simp) H3
  obtain ⟨w, rfl, w0, w1⟩ : ∃ u : Int, y = .int u ∧ 1 ≤ u ∧ u ≤ 20000 := by
    simp at hy
    rcases hy with rfl | rfl <;> exact ⟨_, rfl, by decide, by decide⟩
  obtain ⟨a, m5, a0, a1, H5, e5⟩ := draw_ok w m4 [] (by omega) (by omega) H4
  refine ⟨m5, H5, ?_⟩
  have hst : 5 ≤ 5 + r ∧ 5 + r ≤ 100 := by omega
  have hhi : -60000 ≤ min 60000 (lo + a) ∧ min 60000 (lo + a) ≤ 60000 := by omega
  have cl := clear_ok (S := [m5]) (st := 5 + r) hp hlo hhi hst
  have sg := step_good hst
  generalize eh : min 60000 (lo + a) = hi at *
  generalize es : 5 + r = st at *
  have lc := lcL_fm (tg := gN 6) (t := l1__law_are_levels_right) (f := l0__law_are_levels_right) (ρ := [some (.loc 0), some (.d (.int p)), some (.d (.int st)), some (.d (.int lo)), some (.d (.int hi)), none, none]) (S := [m5]) PyData.int (fun l => decide (lo ≤ 100 * l - 30 * (1013 - p) ∧ 100 * l - 30 * (1013 - p) ≤ hi)) PyData.int (lvI st) (fun x _ => ⟨_, rfl, by by_cases q : lo ≤ 100 * x - 30 * (1013 - p) <;> simp [l1__law_are_levels_right, oMul_int, mul30, mul100, q], by simp [l0__law_are_levels_right]⟩) (by omega)
  have rg : iRangeC (aCons (eD (.int 0)) (aCons (eD (.int 501)) (aCons (eVar 2) aNil))) [some (.loc 0), some (.d (.int p)), some (.d (.int st)), some (.d (.int lo)), some (.d (.int hi)), none, none] [m5] = .ok (iD (lvI st)) [m5] := by
    rw [← lvI_D]
    have so := sg.1
    simp [iRangeC, so]
  have rp : fReprX [.d (.list [.tuple (iD (clearL p lo hi st)), .tuple (iD (clearL p lo hi st))])] [m5] = .ok (.d (.str (PyData.shown (.list [.tuple (iD (clearL p lo hi st)), .tuple (iD (clearL p lo hi st))])))) [m5] := by
    have cll : (clearL p lo hi st).length ≤ 101 := Nat.le_trans (List.length_filter_le _ _) sg.2
    have sub : ∀ x ∈ clearL p lo hi st, -1000000 ≤ x ∧ x ≤ 1000000 := by
      intro x hx
      have := (List.mem_filter.mp hx).2
      simp only [decide_eq_true_eq] at this
      omega
    have h1 : Rp ((1921 + 2) * 101 + 3) 1 (.tuple (iD (clearL p lo hi st))) := by
      have := rp_tup (n := 1921) (k := 0) (ds := iD (clearL p lo hi st)) (fun d hd => by
        obtain ⟨i, hi, rfl⟩ := List.mem_map.mp hd
        exact rpi (sub i hi))
      rw [iD_len] at this
      exact this.mono (by omega) (Nat.le_refl _)
    exact rp_reprX (rp_list (fun d hd => by
      simp only [List.mem_cons, List.not_mem_nil, or_false] at hd
      rcases hd with rfl | rfl <;> exact h1)) (by simp) (by decide)
  have key : b__law_are_levels_right [some (.loc 0), none, none, none, none, none, none] [m] = .ret (.d (.bool true)) [m5] := by
    rw [b__law_are_levels_right, ap_sCons]
    conv => lhs; arg 1; simp [e1, e2, e3, es]
    rw [seq_nx, ap_sCons]
    conv => lhs; arg 1; simp [e4, e5, eh]
    rw [seq_nx, ap_sCons]
    have c0 : eLc false (iRangeC (aCons (eD (.int 0)) (aCons (eD (.int 501)) (aCons (eVar 2) aNil)))) (gN 6) l1__law_are_levels_right l0__law_are_levels_right [6] [some (.loc 0), some (.d (.int p)), some (.d (.int st)), some (.d (.int lo)), some (.d (.int hi)), none, none] [m5] = .ok (.d (.list (iD (clearL p lo hi st)))) [m5] := by
      rw [ap_eLc, rg, bind_ok, show wipeE [some (.loc 0), some (.d (.int p)), some (.d (.int st)), some (.d (.int lo)), some (.d (.int hi)), none, none] [6] = [some (.loc 0), some (.d (.int p)), some (.d (.int st)), some (.d (.int lo)), some (.d (.int hi)), none, none] from rfl, show iD (lvI st) = (lvI st).map PyData.int from rfl, lc]
      rfl
    rw [ap_sSet, ap_eCall, ap_aCons, c0]
    generalize iD (clearL p lo hi st) = Y at *
    simp [fTuple, seqOf, cl, rp]
  rw [g__law_are_levels_right, ap_fnOf, show List.map some [Vl.loc 0] ++ List.replicate (7 - [Vl.loc 0].length) none = [some (.loc 0), none, none, none, none, none, none] from rfl, key]
  rfl
theorem word_number {fb : Ev} {ρ : Env} {S : Store} (h : fb ρ S = .ex NN S) : eLam g__law_word fb ρ S = .ok (.d (.str "number")) S := by
  refine eLam_of fun p => ?_
  have k0 : kit_NoNumber (Str.ofString "NoNumber") = some true := by decide
  have k1 : kit_NoPair (Str.ofString "NoNumber") = some false := by decide
  have k2 : kit_NoPairs (Str.ofString "NoNumber") = some false := by decide
  have kv : kit_ValueError (Str.ofString "NoNumber") = some true := by decide
  have ks : sub_FieldError (Str.ofString "NoNumber") = some true := by decide
  have vc : ∀ S, vCount (.d (.list [.bool true, .bool false, .bool false])) (.d (.bool true)) S = .ok (.d (.int 1)) S := fun _ => rfl
  have vi : ∀ S, vIndex (.d (.list [.bool true, .bool false, .bool false])) (.d (.bool true)) S = .ok (.d (.int 0)) S := fun _ => rfl
  have lo : ∀ S, lstOf S (.d (.list [.bool true, .bool false, .bool false])) = some [.bool true, .bool false, .bool false] := fun _ => rfl
  simp [g__law_word, ap_fnOf, b__law_word, List.replicate, sTryAs, h, ks]
  rw [pickA_of (r := .nx [some (.lam p), some (.d (.str "number")), none, some (.d (.list [.bool true, .bool false, .bool false]))] S) fun a => by simp [k0, k1, k2, kv, lo, vc, vi, dropI, oIx, view, oPost, atI, ixN, PyData.truthy]]
  simp [leave]
theorem word_pair {fb : Ev} {ρ : Env} {S : Store} (h : fb ρ S = .ex NP S) : eLam g__law_word fb ρ S = .ok (.d (.str "pair")) S := by
  refine eLam_of fun p => ?_
  have k0 : kit_NoNumber (Str.ofString "NoPair") = some false := by decide
  have k1 : kit_NoPair (Str.ofString "NoPair") = some true := by decide
  have k2 : kit_NoPairs (Str.ofString "NoPair") = some false := by decide
  have kv : kit_ValueError (Str.ofString "NoPair") = some true := by decide
  have ks : sub_FieldError (Str.ofString "NoPair") = some true := by decide
  have vc : ∀ S, vCount (.d (.list [.bool false, .bool true, .bool false])) (.d (.bool true)) S = .ok (.d (.int 1)) S := fun _ => rfl
  have vi : ∀ S, vIndex (.d (.list [.bool false, .bool true, .bool false])) (.d (.bool true)) S = .ok (.d (.int 1)) S := fun _ => rfl
  have lo : ∀ S, lstOf S (.d (.list [.bool false, .bool true, .bool false])) = some [.bool false, .bool true, .bool false] := fun _ => rfl
  simp [g__law_word, ap_fnOf, b__law_word, List.replicate, sTryAs, h, ks]
  rw [pickA_of (r := .nx [some (.lam p), some (.d (.str "pair")), none, some (.d (.list [.bool false, .bool true, .bool false]))] S) fun a => by simp [k0, k1, k2, kv, lo, vc, vi, dropI, oIx, view, oPost, atI, ixN, PyData.truthy]]
  simp [leave]
theorem word_pairs {fb : Ev} {ρ : Env} {S : Store} (h : fb ρ S = .ex NS S) : eLam g__law_word fb ρ S = .ok (.d (.str "pairs")) S := by
  refine eLam_of fun p => ?_
  have k0 : kit_NoNumber (Str.ofString "NoPairs") = some false := by decide
  have k1 : kit_NoPair (Str.ofString "NoPairs") = some false := by decide
  have k2 : kit_NoPairs (Str.ofString "NoPairs") = some true := by decide
  have kv : kit_ValueError (Str.ofString "NoPairs") = some true := by decide
  have ks : sub_FieldError (Str.ofString "NoPairs") = some true := by decide
  have vc : ∀ S, vCount (.d (.list [.bool false, .bool false, .bool true])) (.d (.bool true)) S = .ok (.d (.int 1)) S := fun _ => rfl
  have vi : ∀ S, vIndex (.d (.list [.bool false, .bool false, .bool true])) (.d (.bool true)) S = .ok (.d (.int 2)) S := fun _ => rfl
  have lo : ∀ S, lstOf S (.d (.list [.bool false, .bool false, .bool true])) = some [.bool false, .bool false, .bool true] := fun _ => rfl
  simp [g__law_word, ap_fnOf, b__law_word, List.replicate, sTryAs, h, ks]
  rw [pickA_of (r := .nx [some (.lam p), some (.d (.str "pairs")), none, some (.d (.list [.bool false, .bool false, .bool true]))] S) fun a => by simp [k0, k1, k2, kv, lo, vc, vi, dropI, oIx, view, oPost, atI, ixN, PyData.truthy]]
  simp [leave]
structure Deep (d : D) : Prop where
  i : isI d = false
  p : pairB d = false
  s : pairsB d = false
  l : ∀ ds, d = .tuple ds → ds.length ≤ 900
theorem deep_tup {d : D} (h : Deep d) : Deep (.tuple [d]) := ⟨rfl, rfl, by unfold pairsB; simp [h.p], fun ds e => by cases e; simp⟩
theorem deep_lst (ds : List D) : Deep (.list ds) := ⟨rfl, rfl, rfl, fun ds e => by cases e⟩
theorem deep_dic (es : List (D × D)) : Deep (.dict es) := ⟨rfl, rfl, rfl, fun ds e => by cases e⟩
theorem deep_loop {R : Store} : ∀ (xs : List D) (m : MO) (d : D) (x2 : Option Vl), IsHand m → Deep d → ∃ m' d' y2, IsHand m' ∧ Deep d' ∧ forL (gN 2) l0__law_deep xs [some (.loc 0), some (.d d), x2] (m :: R) = .nx [some (.loc 0), some (.d d'), y2] (m' :: R) := by
  intro xs
  induction xs with
  | nil => exact fun m d x2 H h => ⟨m, d, x2, H, h, rfl⟩
  | cons x xs ih =>
    intro m d x2 H h
    obtain ⟨r, m1, a, b, H1, e⟩ := draw_ok 3 m R (by omega) (by omega) H
    have hr : r = 0 ∨ r = 1 ∨ r = 2 := by omega
    rw [ap_forL1]
    simp only [ap_gN, List.set_cons_succ, List.set_cons_zero]
    rcases hr with rfl | rfl | rfl
    · obtain ⟨m', d', y2, H', h', e'⟩ := ih m1 (.tuple [d]) (some (.d x)) H1 (deep_tup h)
      have s : l0__law_deep [some (.loc 0), some (.d d), some (.d x)] (m :: R) = .nx [some (.loc 0), some (.d (.tuple [d])), some (.d x)] (m1 :: R) := by simp [l0__law_deep, e, mkK]
      exact ⟨m', d', y2, H', h', by rw [s]; exact e'⟩
    · obtain ⟨m', d', y2, H', h', e'⟩ := ih m1 (.list [d]) (some (.d x)) H1 (deep_lst _)
      have s : l0__law_deep [some (.loc 0), some (.d d), some (.d x)] (m :: R) = .nx [some (.loc 0), some (.d (.list [d])), some (.d x)] (m1 :: R) := by simp [l0__law_deep, e, mkK]
      exact ⟨m', d', y2, H', h', by rw [s]; exact e'⟩
    · obtain ⟨m', d', y2, H', h', e'⟩ := ih m1 (.dict [(.int 0, d)]) (some (.d x)) H1 (deep_dic _)
      have s : l0__law_deep [some (.loc 0), some (.d d), some (.d x)] (m :: R) = .nx [some (.loc 0), some (.d (.dict [(.int 0, d)])), some (.d x)] (m1 :: R) := by simp [l0__law_deep, e, mkK]
      exact ⟨m', d', y2, H', h', by rw [s]; exact e'⟩
theorem deep_ok {m : MO} {R : Store} (H : IsHand m) : ∃ d m', Deep d ∧ IsHand m' ∧ g__law_deep [.loc 0] (m :: R) = .ok (.d d) (m' :: R) := by
  obtain ⟨d, m1, hd, H1, e1⟩ := some_ok (xs := [.none, .str "0", .dict []]) (R := R) (by simp) (by simp) H
  have h : Deep d := by
    simp only [List.mem_cons, List.not_mem_nil, or_false] at hd
    rcases hd with rfl | rfl | rfl <;> exact ⟨rfl, rfl, rfl, fun ds e => by cases e⟩
  obtain ⟨r, m2, a, b, H2, e2⟩ := draw_ok 25 m1 R (by omega) (by omega) H1
  obtain ⟨m3, d3, y2, H3, h3, e3⟩ := deep_loop (R := R) (rangeD 0 (1 + r)) m2 d none H2 h
  refine ⟨d3, m3, h3, H3, ?_⟩
  have r1 : -4611686018427387904 ≤ 1 + r := by omega
  have r2 : 1 + r < 4611686018427387904 := by omega
  simp [g__law_deep, ap_fnOf, b__law_deep, List.replicate, mkK, e1, e2, iRange, r1, r2, e3, leave]
theorem no_pair_ok {m : MO} (H : IsHand m) : ∃ d m', pairB d = false ∧ IsHand m' ∧ g__law_no_pair [.loc 0] [m] = .ok (.d d) [m'] := by
  obtain ⟨dd, m1, hdd, H1, e1⟩ := deep_ok (R := []) H
  obtain ⟨d, m2, hd, H2, e2⟩ := some_ok (xs := [.none, .int 0, .tuple [], .tuple [.int 0], .list [.int 0, .int 1000], .tuple [.int 0, .int 899], .tuple [.int 0, .int 1101], .tuple [.int 60001, .int 1000], .tuple [.bool true, .int 1000], .tuple [.int 0, .none], .dict [], .tuple [.int 0, .int 1000, .int 1], .tuple [.str "0", .int 1000], dd]) (R := []) (by simp) (by simp) H1
  have ln : ∀ n, n ≤ 1000 → n ≤ sizeLine := fun n h => line1000 h
  refine ⟨d, m2, ?_, H2, by simp [g__law_no_pair, ap_fnOf, b__law_no_pair, List.replicate, e1, e2, mkK, oAdd, ln, leave]⟩
  simp only [List.mem_cons, List.not_mem_nil, or_false] at hd
  rcases hd with rfl | rfl | rfl | rfl | rfl | rfl | rfl | rfl | rfl | rfl | rfl | rfl | rfl | rfl
  · decide +kernel
  · decide +kernel
  · decide +kernel
  · decide +kernel
  · decide +kernel
  · decide +kernel
  · decide +kernel
  · decide +kernel
  · decide +kernel
  · decide +kernel
  · decide +kernel
  · decide +kernel
  · decide +kernel
  · exact hdd.p
theorem no_set_ok {m : MO} (H : IsHand m) : ∃ d m', inI 900 1100 d = false ∧ IsHand m' ∧ g__law_no_setting [.loc 0] [m] = .ok (.d d) [m'] := by
  obtain ⟨dd, m1, hdd, H1, e1⟩ := deep_ok (R := []) H
  obtain ⟨d, m2, hd, H2, e2⟩ := some_ok (xs := [.int 899, .int 1101, .int 0, .int (-1), .none, .bool true, .str "1000", .tuple [.int 1000], dd]) (R := []) (by simp) (by simp) H1
  have ln : ∀ n, n ≤ 1000 → n ≤ sizeLine := fun n h => line1000 h
  refine ⟨d, m2, ?_, H2, by simp [g__law_no_setting, ap_fnOf, b__law_no_setting, e1, e2, mkK, oAdd, ln, leave]⟩
  simp only [List.mem_cons, List.not_mem_nil, or_false] at hd
  rcases hd with rfl | rfl | rfl | rfl | rfl | rfl | rfl | rfl | rfl
  · decide +kernel
  · decide +kernel
  · decide +kernel
  · decide +kernel
  · decide +kernel
  · decide +kernel
  · decide +kernel
  · decide +kernel
  · exact inI_not hdd.i
theorem no_high_ok {m : MO} (H : IsHand m) : ∃ d m', inI (-60000) 60000 d = false ∧ IsHand m' ∧ g__law_no_height [.loc 0] [m] = .ok (.d d) [m'] := by
  obtain ⟨dd, m1, hdd, H1, e1⟩ := deep_ok (R := []) H
  obtain ⟨d, m2, hd, H2, e2⟩ := some_ok (xs := [.int 60001, .int (-60001), .none, .bool true, .str "0", .tuple [.int 0], .dict [], dd]) (R := []) (by simp) (by simp) H1
  have ln : ∀ n, n ≤ 1000 → n ≤ sizeLine := fun n h => line1000 h
  refine ⟨d, m2, ?_, H2, by simp [g__law_no_height, ap_fnOf, b__law_no_height, e1, e2, mkK, oAdd, ln, leave]⟩
  simp only [List.mem_cons, List.not_mem_nil, or_false] at hd
  rcases hd with rfl | rfl | rfl | rfl | rfl | rfl | rfl | rfl
  · decide +kernel
  · decide +kernel
  · decide +kernel
  · decide +kernel
  · decide +kernel
  · decide +kernel
  · decide +kernel
  · exact inI_not hdd.i
section
variable {m m' : MO} {b o n h l s XX : D}
theorem r0_ok {m1 : MO} (h1 : g__law_no_pair [.loc 0] [m] = .ok (.d b) [m1]) (h2 : g__law_no_setting [.loc 0] [m1] = .ok (.d o) [m']) : t0__law_are_refused [some (.loc 0), none, none, none, none, none, none, none, none] [m] = .nx [some (.loc 0), some (.d b), some (.d o), some (.d (.tuple [.int 0, .int 1000])), none, none, none, none, none] [m'] := by
  simp [t0__law_are_refused, h1, h2]
theorem r1_core (mx : ∀ S, oMulT false (.d (.tuple [.tuple [.int 0, .int 1000]])) (.d (.int 13)) S = .ok (.d XX) S) : t1__law_are_refused [some (.loc 0), some (.d b), some (.d o), some (.d (.tuple [.int 0, .int 1000])), none, none, none, none, none] [m] = .nx [some (.loc 0), some (.d b), some (.d o), some (.d (.tuple [.int 0, .int 1000])), some (.d (.list [.none, .tuple [], .int 0, .list [.tuple [.int 0, .int 1000]], .tuple [.int 0, .int 1000], .dict [], XX, .tuple [.tuple [.int 0, .int 1000], .tuple [.int 0, .int 899]], .str "pairs"])), none, none, none, none] [m] := by
  simp [t1__law_are_refused, mx, mkK]
theorem r1_ok : t1__law_are_refused [some (.loc 0), some (.d b), some (.d o), some (.d (.tuple [.int 0, .int 1000])), none, none, none, none, none] [m] = .nx [some (.loc 0), some (.d b), some (.d o), some (.d (.tuple [.int 0, .int 1000])), some (.d (.list [.none, .tuple [], .int 0, .list [.tuple [.int 0, .int 1000]], .tuple [.int 0, .int 1000], .dict [], .tuple (List.replicate 13 (.tuple [.int 0, .int 1000])), .tuple [.tuple [.int 0, .int 1000], .tuple [.int 0, .int 899]], .str "pairs"])), none, none, none, none] [m] := r1_core fun S => by
  simp [oMulT]
  rfl
theorem r2_core {m1 m2 : MO} {dd : D} (h1 : g__law_no_height [.loc 0] [m] = .ok (.d h) [m1]) (h2 : g__law_deep [.loc 0] [m1] = .ok (.d dd) [m2]) (h3 : g__law_some [.loc 0, .d (.list [.none, .tuple [], .int 0, .list [.tuple [.int 0, .int 1000]], .tuple [.int 0, .int 1000], .dict [], XX, .tuple [.tuple [.int 0, .int 1000], .tuple [.int 0, .int 899]], .str "pairs", dd])] [m2] = .ok (.d n) [m']) : t2__law_are_refused [some (.loc 0), some (.d b), some (.d o), some (.d (.tuple [.int 0, .int 1000])), some (.d (.list [.none, .tuple [], .int 0, .list [.tuple [.int 0, .int 1000]], .tuple [.int 0, .int 1000], .dict [], XX, .tuple [.tuple [.int 0, .int 1000], .tuple [.int 0, .int 899]], .str "pairs"])), none, none, none, none] [m] = .nx [some (.loc 0), some (.d b), some (.d o), some (.d (.tuple [.int 0, .int 1000])), some (.d n), some (.d h), none, none, none] [m'] := by
  have ln : ∀ n, n ≤ 1000 → n ≤ sizeLine := fun n h => line1000 h
  simp [t2__law_are_refused, h1, h2, oAdd, ln, h3]
theorem r2_ok (H : IsHand m) : ∃ h n m', inI (-60000) 60000 h = false ∧ (pairsB n = false ∧ ∀ ds, n = .tuple ds → ds.length ≤ 900) ∧ IsHand m' ∧ t2__law_are_refused [some (.loc 0), some (.d b), some (.d o), some (.d (.tuple [.int 0, .int 1000])), some (.d (.list [.none, .tuple [], .int 0, .list [.tuple [.int 0, .int 1000]], .tuple [.int 0, .int 1000], .dict [], .tuple (List.replicate 13 (.tuple [.int 0, .int 1000])), .tuple [.tuple [.int 0, .int 1000], .tuple [.int 0, .int 899]], .str "pairs"])), none, none, none, none] [m] = .nx [some (.loc 0), some (.d b), some (.d o), some (.d (.tuple [.int 0, .int 1000])), some (.d n), some (.d h), none, none, none] [m'] := by
  obtain ⟨h, m1, hh, H1, e1⟩ := no_high_ok H
  obtain ⟨dd, m2, hdd, H2, e2⟩ := deep_ok (R := []) H1
  obtain ⟨n, m3, hn, H3, e3⟩ := some_ok (xs := [.none, .tuple [], .int 0, .list [.tuple [.int 0, .int 1000]], .tuple [.int 0, .int 1000], .dict [], .tuple (List.replicate 13 (.tuple [.int 0, .int 1000])), .tuple [.tuple [.int 0, .int 1000], .tuple [.int 0, .int 899]], .str "pairs", dd]) (R := []) (by simp) (by simp) H2
  refine ⟨h, n, m3, hh, ?_, H3, r2_core e1 e2 e3⟩
  simp only [List.mem_cons, List.not_mem_nil, or_false] at hn
  rcases hn with rfl | rfl | rfl | rfl | rfl | rfl | rfl | rfl | rfl | rfl
  · exact ⟨by decide +kernel, fun ds e => by cases e <;> simp⟩
  · exact ⟨by decide +kernel, fun ds e => by cases e <;> simp⟩
  · exact ⟨by decide +kernel, fun ds e => by cases e <;> simp⟩
  · exact ⟨by decide +kernel, fun ds e => by cases e <;> simp⟩
  · exact ⟨by decide +kernel, fun ds e => by cases e <;> simp⟩
  · exact ⟨by decide +kernel, fun ds e => by cases e <;> simp⟩
  · exact ⟨by decide +kernel, fun ds e => by cases e <;> simp⟩
  · exact ⟨by decide +kernel, fun ds e => by cases e <;> simp⟩
  · exact ⟨by decide +kernel, fun ds e => by cases e <;> simp⟩
  · exact ⟨hdd.s, hdd.l⟩
theorem r3_ok (H : IsHand m) : ∃ d m', inI 0 (10 ^ 40) d = false ∧ IsHand m' ∧ t3__law_are_refused [some (.loc 0), some (.d b), some (.d o), some (.d (.tuple [.int 0, .int 1000])), some (.d n), some (.d h), none, none, none] [m] = .nx [some (.loc 0), some (.d b), some (.d o), some (.d (.tuple [.int 0, .int 1000])), some (.d n), some (.d h), some (.d d), none, none] [m'] := by
  obtain ⟨dd, m1, hdd, H1, e1⟩ := deep_ok (R := []) H
  obtain ⟨d, m2, hd, H2, e2⟩ := some_ok (xs := [.int (-1), .none, .bool true, .str "5", .tuple [.int 5], dd]) (R := []) (by simp) (by simp) H1
  refine ⟨d, m2, ?_, H2, by simp [t3__law_are_refused, e1, e2]⟩
  simp only [List.mem_cons, List.not_mem_nil, or_false] at hd
  rcases hd with rfl | rfl | rfl | rfl | rfl | rfl
  · decide +kernel
  · decide +kernel
  · decide +kernel
  · decide +kernel
  · decide +kernel
  · exact inI_not hdd.i
theorem r4_ok (H : IsHand m) : ∃ d m', inI 5 (100) d = false ∧ IsHand m' ∧ t4__law_are_refused [some (.loc 0), some (.d b), some (.d o), some (.d (.tuple [.int 0, .int 1000])), some (.d n), some (.d h), some (.d l), none, none] [m] = .nx [some (.loc 0), some (.d b), some (.d o), some (.d (.tuple [.int 0, .int 1000])), some (.d n), some (.d h), some (.d l), some (.d d), none] [m'] := by
  obtain ⟨dd, m1, hdd, H1, e1⟩ := deep_ok (R := []) H
  obtain ⟨d, m2, hd, H2, e2⟩ := some_ok (xs := [.int 4, .int 101, .int 0, .int (-5), .none, .bool true, .str "5", .tuple [.int 5], dd]) (R := []) (by simp) (by simp) H1
  refine ⟨d, m2, ?_, H2, by simp [t4__law_are_refused, e1, e2]⟩
  simp only [List.mem_cons, List.not_mem_nil, or_false] at hd
  rcases hd with rfl | rfl | rfl | rfl | rfl | rfl | rfl | rfl | rfl
  · decide +kernel
  · decide +kernel
  · decide +kernel
  · decide +kernel
  · decide +kernel
  · decide +kernel
  · decide +kernel
  · decide +kernel
  · exact inI_not hdd.i
end
section
variable {a b c d : D} {S : Store} {x : Xn}
theorem between_x (h : pairB a = false) : g_between [.d a, .d b, .d c] S = .ex NP S := by
  have p := pair_ok a S
  rw [h] at p
  have fl : ∀ xs, forL (gN 3) l0_between (a :: xs) [some (.d a), some (.d b), some (.d c), none] S = .ex NP [some (.d a), some (.d b), some (.d c), some (.d a)] S := fun xs => by
    rw [ap_forL1]
    simp only [ap_gN, List.set_cons_succ, List.set_cons_zero]
    rw [show l0_between [some (.d a), some (.d b), some (.d c), some (.d a)] S = .ex NP [some (.d a), some (.d b), some (.d c), some (.d a)] S by simp [l0_between, p]]
  simp [g_between, ap_fnOf, b_between, List.replicate, seqOf, fl, leave]
theorem between_y (ha : pairB a = true) (h : pairB b = false) : g_between [.d a, .d b, .d c] S = .ex NP S := by
  have p := pair_ok a S
  rw [ha] at p
  have q := pair_ok b S
  rw [h] at q
  have fl : forL (gN 3) l0_between [a, b] [some (.d a), some (.d b), some (.d c), none] S = .ex NP [some (.d a), some (.d b), some (.d c), some (.d b)] S := by
    rw [ap_forL1]
    simp only [ap_gN, List.set_cons_succ, List.set_cons_zero]
    rw [show l0_between [some (.d a), some (.d b), some (.d c), some (.d a)] S = .nx [some (.d a), some (.d b), some (.d c), some (.d a)] S by simp [l0_between, p]]
    simp only
    rw [ap_forL1]
    simp only [ap_gN, List.set_cons_succ, List.set_cons_zero]
    rw [show l0_between [some (.d a), some (.d b), some (.d c), some (.d b)] S = .ex NP [some (.d a), some (.d b), some (.d c), some (.d b)] S by simp [l0_between, q]]
  simp [g_between, ap_fnOf, b_between, List.replicate, seqOf, fl, leave]
theorem between_z (ha : pairB a = true) (hb : pairB b = true) (h : inI 900 1100 c = false) : g_between [.d a, .d b, .d c] S = .ex NN S := by
  have p := pair_ok a S
  rw [ha] at p
  have q := pair_ok b S
  rw [hb] at q
  have pr := pressure_ok c S
  rw [h] at pr
  have fl : forL (gN 3) l0_between [a, b] [some (.d a), some (.d b), some (.d c), none] S = .nx [some (.d a), some (.d b), some (.d c), some (.d b)] S := by
    rw [ap_forL1]
    simp only [ap_gN, List.set_cons_succ, List.set_cons_zero]
    rw [show l0_between [some (.d a), some (.d b), some (.d c), some (.d a)] S = .nx [some (.d a), some (.d b), some (.d c), some (.d a)] S by simp [l0_between, p]]
    simp only
    rw [ap_forL1]
    simp only [ap_gN, List.set_cons_succ, List.set_cons_zero]
    rw [show l0_between [some (.d a), some (.d b), some (.d c), some (.d b)] S = .nx [some (.d a), some (.d b), some (.d c), some (.d b)] S by simp [l0_between, q]]
    rfl
  simp at pr
  simp [g_between, ap_fnOf, b_between, List.replicate, seqOf, fl, pr, leave]
theorem kept_x (hl : ∀ ds, a = .tuple ds → ds.length ≤ 900) (h : pairsB a = false) : g_kept_apart [.d a, .d b] S = .ex NS S := by
  have p := check_pairs_ok a S hl
  rw [h] at p
  simp at p
  simp [g_kept_apart, ap_fnOf, b_kept_apart, List.replicate, p, leave]
theorem kept_y (hl : ∀ ds, a = .tuple ds → ds.length ≤ 900) (h : pairsB a = true) (h2 : inI 0 (10 ^ 40) b = false) : g_kept_apart [.d a, .d b] S = .ex NN S := by
  have pw : ∀ S, oPow (.d (.int 10)) (.d (.int 40)) S = .ok (.d (.int (10 ^ 40))) S := fun S => by simp [oPow]
  have p := check_pairs_ok a S hl
  rw [h] at p
  simp at p
  have w := within_ok b 0 (10 ^ 40) S
  rw [h2] at w
  generalize (10 : Int) ^ 40 = K at *
  simp [g_kept_apart, ap_fnOf, b_kept_apart, List.replicate, p, pw, w, leave]
theorem near_x (hl : ∀ ds, a = .tuple ds → ds.length ≤ 900) (h : pairsB a = false) : g_nearest_two [.d a] S = .ex NS S := by
  have p := check_pairs_ok a S hl
  rw [h] at p
  simp at p
  simp [g_nearest_two, ap_fnOf, b_nearest_two, List.replicate, p, leave]
theorem clear_w (h : inI 900 1100 a = false) : g_clear_levels [.d a, .d b, .d c, .d d] S = .ex NN S := by
  have p := pressure_ok a S
  rw [h] at p
  simp at p
  simp [g_clear_levels, ap_fnOf, b_clear_levels, List.replicate, p, leave]
theorem clear_x (h0 : g_check_pressure [.d a] S = .ok (.d .none) S) (h : inI (-60000) 60000 b = false) : g_clear_levels [.d a, .d b, .d c, .d d] S = .ex NN S := by
  have p := height_ok b S
  rw [h] at p
  simp at p
  simp [g_clear_levels, ap_fnOf, b_clear_levels, List.replicate, h0, p, leave]
theorem clear_y (h0 : g_check_pressure [.d a] S = .ok (.d .none) S) (h1 : g_check_height [.d b] S = .ok (.d .none) S) (h : inI (-60000) 60000 c = false) : g_clear_levels [.d a, .d b, .d c, .d d] S = .ex NN S := by
  have p := height_ok c S
  rw [h] at p
  simp at p
  simp [g_clear_levels, ap_fnOf, b_clear_levels, List.replicate, h0, h1, p, leave]
theorem clear_z (h0 : g_check_pressure [.d a] S = .ok (.d .none) S) (h1 : g_check_height [.d b] S = .ok (.d .none) S) (h2 : g_check_height [.d c] S = .ok (.d .none) S) (h : inI 5 100 d = false) : g_clear_levels [.d a, .d b, .d c, .d d] S = .ex NN S := by
  have w := within_ok d 5 100 S
  rw [h] at w
  simp [g_clear_levels, ap_fnOf, b_clear_levels, List.replicate, h0, h1, h2, w, leave]
end
section
variable {m : MO} {b o n h l s : D}
theorem goodp : pairB (.tuple [.int 0, .int 1000]) = true := by decide +kernel
theorem r5_ok (hb : pairB b = false) : t5__law_are_refused [some (.loc 0), some (.d b), some (.d o), some (.d (.tuple [.int 0, .int 1000])), some (.d n), some (.d h), some (.d l), some (.d s), none] [m] = .nx [some (.loc 0), some (.d b), some (.d o), some (.d (.tuple [.int 0, .int 1000])), some (.d n), some (.d h), some (.d l), some (.d s), some (.loc 1)] [m, .lst [.str "pair", .str "pair"]] := by
  have a0 := word_pair (fb := l0__law_are_refused) (ρ := [some (.loc 0), some (.d b), some (.d o), some (.d (.tuple [.int 0, .int 1000])), some (.d n), some (.d h), some (.d l), some (.d s), none]) (S := [m]) (by simp [l0__law_are_refused, between_x hb])
  have a1 := word_pair (fb := l1__law_are_refused) (ρ := [some (.loc 0), some (.d b), some (.d o), some (.d (.tuple [.int 0, .int 1000])), some (.d n), some (.d h), some (.d l), some (.d s), none]) (S := [m]) (by simp [l1__law_are_refused, between_y goodp hb])
  simp [t5__law_are_refused, a0, a1]
theorem r6_ok (ho : inI 900 1100 o = false) (hn : pairsB n = false) (hl : ∀ ds, n = .tuple ds → ds.length ≤ 900) : t6__law_are_refused [some (.loc 0), some (.d b), some (.d o), some (.d (.tuple [.int 0, .int 1000])), some (.d n), some (.d h), some (.d l), some (.d s), some (.loc 1)] [m, .lst [.str "pair", .str "pair"]] = .nx [some (.loc 0), some (.d b), some (.d o), some (.d (.tuple [.int 0, .int 1000])), some (.d n), some (.d h), some (.d l), some (.d s), some (.loc 2)] [m, .lst [.str "pair", .str "pair"], .lst [.str "pair", .str "pair", .str "number", .str "pairs"]] := by
  have a0 := word_number (fb := l2__law_are_refused) (ρ := [some (.loc 0), some (.d b), some (.d o), some (.d (.tuple [.int 0, .int 1000])), some (.d n), some (.d h), some (.d l), some (.d s), some (.loc 1)]) (S := [m, .lst [.str "pair", .str "pair"]]) (by simp [l2__law_are_refused, between_z goodp goodp ho])
  have a1 := word_pairs (fb := l3__law_are_refused) (ρ := [some (.loc 0), some (.d b), some (.d o), some (.d (.tuple [.int 0, .int 1000])), some (.d n), some (.d h), some (.d l), some (.d s), some (.loc 1)]) (S := [m, .lst [.str "pair", .str "pair"]]) (by simp [l3__law_are_refused, kept_x hl hn])
  have ln : ∀ n, n ≤ 1000 → n ≤ sizeLine := fun n h => line1000 h
  simp [t6__law_are_refused, a0, a1, oAdd, view, ln]
theorem r7_ok (hn : pairsB n = false) (hl : ∀ ds, n = .tuple ds → ds.length ≤ 900) (hle : inI 0 (10 ^ 40) l = false) : t7__law_are_refused [some (.loc 0), some (.d b), some (.d o), some (.d (.tuple [.int 0, .int 1000])), some (.d n), some (.d h), some (.d l), some (.d s), some (.loc 2)] [m, .lst [.str "pair", .str "pair"], .lst [.str "pair", .str "pair", .str "number", .str "pairs"]] = .nx [some (.loc 0), some (.d b), some (.d o), some (.d (.tuple [.int 0, .int 1000])), some (.d n), some (.d h), some (.d l), some (.d s), some (.loc 3)] [m, .lst [.str "pair", .str "pair"], .lst [.str "pair", .str "pair", .str "number", .str "pairs"], .lst [.str "pair", .str "pair", .str "number", .str "pairs", .str "number", .str "pairs"]] := by
  have ky := fun S => kept_y (S := S) (a := .tuple [.tuple [.int 0, .int 1000]]) (b := l) (fun ds e => by cases e; simp) (by decide +kernel) hle
  have a0 := word_number (fb := l4__law_are_refused) (ρ := [some (.loc 0), some (.d b), some (.d o), some (.d (.tuple [.int 0, .int 1000])), some (.d n), some (.d h), some (.d l), some (.d s), some (.loc 2)]) (S := [m, .lst [.str "pair", .str "pair"], .lst [.str "pair", .str "pair", .str "number", .str "pairs"]]) (by simp [l4__law_are_refused, ky])
  have a1 := word_pairs (fb := l5__law_are_refused) (ρ := [some (.loc 0), some (.d b), some (.d o), some (.d (.tuple [.int 0, .int 1000])), some (.d n), some (.d h), some (.d l), some (.d s), some (.loc 2)]) (S := [m, .lst [.str "pair", .str "pair"], .lst [.str "pair", .str "pair", .str "number", .str "pairs"]]) (by simp [l5__law_are_refused, near_x hl hn])
  have ln : ∀ n, n ≤ 1000 → n ≤ sizeLine := fun n h => line1000 h
  simp [t7__law_are_refused, a0, a1, oAdd, view, ln]
theorem app_ok {fb : Ev} {x1 x2 x3 x4 x5 x6 x7 : Option Vl} {a1 a2 a3 : MO} {ws : List D} (h : eLam g__law_word fb [some (.loc 0), x1, x2, x3, x4, x5, x6, x7, some (.loc 3)] [a1, a2, a3, .lst ws] = .ok (.d (.str "number")) [a1, a2, a3, .lst ws]) (hl : ws.length ≤ 100) :
    sExpr (eApp (eVar 8) (eLam g__law_word fb)) [some (.loc 0), x1, x2, x3, x4, x5, x6, x7, some (.loc 3)] [a1, a2, a3, .lst ws] = .nx [some (.loc 0), x1, x2, x3, x4, x5, x6, x7, some (.loc 3)] [a1, a2, a3, .lst (ws ++ [.str "number"])] := by
  have s : ws.length < sizeLine := Nat.lt_of_lt_of_le (by omega) (line1000 (Nat.le_refl 1000))
  simp [isLst, h, putApp, s]
theorem r8_ok (ho : inI 900 1100 o = false) : t8__law_are_refused [some (.loc 0), some (.d b), some (.d o), some (.d (.tuple [.int 0, .int 1000])), some (.d n), some (.d h), some (.d l), some (.d s), some (.loc 3)] [m, .lst [.str "pair", .str "pair"], .lst [.str "pair", .str "pair", .str "number", .str "pairs"], .lst [.str "pair", .str "pair", .str "number", .str "pairs", .str "number", .str "pairs"]] = .nx [some (.loc 0), some (.d b), some (.d o), some (.d (.tuple [.int 0, .int 1000])), some (.d n), some (.d h), some (.d l), some (.d s), some (.loc 3)] [m, .lst [.str "pair", .str "pair"], .lst [.str "pair", .str "pair", .str "number", .str "pairs"], .lst [.str "pair", .str "pair", .str "number", .str "pairs", .str "number", .str "pairs", .str "number"]] :=
  app_ok (word_number (by
    have e := fun S => clear_w (S := S) (b := .int 0) (c := .int 5) (d := .int 5) ho
    simp [l6__law_are_refused, e])) (by simp)
theorem r9_ok (hh : inI (-60000) 60000 h = false) : t9__law_are_refused [some (.loc 0), some (.d b), some (.d o), some (.d (.tuple [.int 0, .int 1000])), some (.d n), some (.d h), some (.d l), some (.d s), some (.loc 3)] [m, .lst [.str "pair", .str "pair"], .lst [.str "pair", .str "pair", .str "number", .str "pairs"], .lst [.str "pair", .str "pair", .str "number", .str "pairs", .str "number", .str "pairs", .str "number"]] = .nx [some (.loc 0), some (.d b), some (.d o), some (.d (.tuple [.int 0, .int 1000])), some (.d n), some (.d h), some (.d l), some (.d s), some (.loc 3)] [m, .lst [.str "pair", .str "pair"], .lst [.str "pair", .str "pair", .str "number", .str "pairs"], .lst [.str "pair", .str "pair", .str "number", .str "pairs", .str "number", .str "pairs", .str "number", .str "number"]] :=
  app_ok (word_number (by
    have e := fun S => clear_x (S := S) (a := .int 1000) (c := .int 5) (d := .int 5) (press_good (by decide) _) hh
    simp [l7__law_are_refused, e])) (by simp)
theorem r10_ok (hh : inI (-60000) 60000 h = false) : t10__law_are_refused [some (.loc 0), some (.d b), some (.d o), some (.d (.tuple [.int 0, .int 1000])), some (.d n), some (.d h), some (.d l), some (.d s), some (.loc 3)] [m, .lst [.str "pair", .str "pair"], .lst [.str "pair", .str "pair", .str "number", .str "pairs"], .lst [.str "pair", .str "pair", .str "number", .str "pairs", .str "number", .str "pairs", .str "number", .str "number"]] = .nx [some (.loc 0), some (.d b), some (.d o), some (.d (.tuple [.int 0, .int 1000])), some (.d n), some (.d h), some (.d l), some (.d s), some (.loc 3)] [m, .lst [.str "pair", .str "pair"], .lst [.str "pair", .str "pair", .str "number", .str "pairs"], .lst [.str "pair", .str "pair", .str "number", .str "pairs", .str "number", .str "pairs", .str "number", .str "number", .str "number"]] :=
  app_ok (word_number (by
    have e := fun S => clear_y (S := S) (a := .int 1000) (b := .int 0) (d := .int 5) (press_good (by decide) _) (high_good (by decide) _) hh
    simp [l8__law_are_refused, e])) (by simp)
theorem r11_ok (hs : inI 5 100 s = false) : t11__law_are_refused [some (.loc 0), some (.d b), some (.d o), some (.d (.tuple [.int 0, .int 1000])), some (.d n), some (.d h), some (.d l), some (.d s), some (.loc 3)] [m, .lst [.str "pair", .str "pair"], .lst [.str "pair", .str "pair", .str "number", .str "pairs"], .lst [.str "pair", .str "pair", .str "number", .str "pairs", .str "number", .str "pairs", .str "number", .str "number", .str "number"]] = .nx [some (.loc 0), some (.d b), some (.d o), some (.d (.tuple [.int 0, .int 1000])), some (.d n), some (.d h), some (.d l), some (.d s), some (.loc 3)] [m, .lst [.str "pair", .str "pair"], .lst [.str "pair", .str "pair", .str "number", .str "pairs"], .lst [.str "pair", .str "pair", .str "number", .str "pairs", .str "number", .str "pairs", .str "number", .str "number", .str "number", .str "number"]] :=
  app_ok (word_number (by
    have e := fun S => clear_z (S := S) (a := .int 1000) (b := .int 0) (c := .int 5) (press_good (by decide) _) (high_good (by decide) _) (high_good (by decide) _) hs
    simp [l9__law_are_refused, e])) (by simp)
theorem r12_ok : t12__law_are_refused [some (.loc 0), some (.d b), some (.d o), some (.d (.tuple [.int 0, .int 1000])), some (.d n), some (.d h), some (.d l), some (.d s), some (.loc 3)] [m, .lst [.str "pair", .str "pair"], .lst [.str "pair", .str "pair", .str "number", .str "pairs"], .lst [.str "pair", .str "pair", .str "number", .str "pairs", .str "number", .str "pairs", .str "number", .str "number", .str "number", .str "number"]] = .ret (.d (.bool true)) [m, .lst [.str "pair", .str "pair"], .lst [.str "pair", .str "pair", .str "number", .str "pairs"], .lst [.str "pair", .str "pair", .str "number", .str "pairs", .str "number", .str "pairs", .str "number", .str "number", .str "number", .str "number"]] := by
  have ln : ∀ n, n ≤ 1000 → n ≤ sizeLine := fun n h => line1000 h
  have o := oEq_same (d := .list [.str "pair", .str "pair", .str "number", .str "pairs", .str "number", .str "pairs", .str "number", .str "number", .str "number", .str "number"]) (S := [m, .lst [.str "pair", .str "pair"], .lst [.str "pair", .str "pair", .str "number", .str "pairs"], .lst [.str "pair", .str "pair", .str "number", .str "pairs", .str "number", .str "pairs", .str "number", .str "number", .str "number", .str "number"]]) (by decide +kernel)
  have lo : oEq (.loc 3) (.d (.list [.str "pair", .str "pair", .str "number", .str "pairs", .str "number", .str "pairs", .str "number", .str "number", .str "number", .str "number"])) [m, .lst [.str "pair", .str "pair"], .lst [.str "pair", .str "pair", .str "number", .str "pairs"], .lst [.str "pair", .str "pair", .str "number", .str "pairs", .str "number", .str "pairs", .str "number", .str "number", .str "number", .str "number"]] = .ok (.d (.bool true)) [m, .lst [.str "pair", .str "pair"], .lst [.str "pair", .str "pair", .str "number", .str "pairs"], .lst [.str "pair", .str "pair", .str "number", .str "pairs", .str "number", .str "pairs", .str "number", .str "number", .str "number", .str "number"]] := by
    rw [← o]
    simp only [oEq, view]
    rfl
  simp [t12__law_are_refused, oMul, oAdd, ln, List.replicate, lo]
end
theorem refused_ok {m : MO} (H : IsHand m) : ∃ m', IsHand m' ∧ g__law_are_refused [.loc 0] [m] = .ok (.d (.bool true)) [m'] := by
  obtain ⟨b, m1, hb, H1, e1⟩ := no_pair_ok H
  obtain ⟨o, m2, ho, H2, e2⟩ := no_set_ok H1
  obtain ⟨h, n, m3, hh, hn, H3, e3⟩ := r2_ok (b := b) (o := o) H2
  obtain ⟨l, m4, hl, H4, e4⟩ := r3_ok (b := b) (o := o) (n := n) (h := h) H3
  obtain ⟨s, m5, hs, H5, e5⟩ := r4_ok (b := b) (o := o) (n := n) (h := h) (l := l) H4
  refine ⟨m5, H5, ?_⟩
  have key : b__law_are_refused [some (.loc 0), none, none, none, none, none, none, none, none] [m] = .ret (.d (.bool true)) [m5, .lst [.str "pair", .str "pair"], .lst [.str "pair", .str "pair", .str "number", .str "pairs"], .lst [.str "pair", .str "pair", .str "number", .str "pairs", .str "number", .str "pairs", .str "number", .str "number", .str "number", .str "number"]] := by
    rw [b__law_are_refused, ap_sCons, r0_ok e1 e2, seq_nx, ap_sCons, r1_ok, seq_nx, ap_sCons, e3, seq_nx, ap_sCons, e4, seq_nx, ap_sCons, e5, seq_nx, ap_sCons, r5_ok hb, seq_nx, ap_sCons, r6_ok ho hn.1 hn.2, seq_nx, ap_sCons, r7_ok hn.1 hn.2 hl, seq_nx, ap_sCons, r8_ok ho, seq_nx, ap_sCons, r9_ok hh, seq_nx, ap_sCons, r10_ok hh, seq_nx, ap_sCons, r11_ok hs, seq_nx, r12_ok]
  rw [g__law_are_refused, ap_fnOf, show List.map some [Vl.loc 0] ++ List.replicate (9 - [Vl.loc 0].length) none = [some (.loc 0), none, none, none, none, none, none, none, none] from rfl, key]
  rfl
theorem okps_of {ps : List Pr} (h : (decide (1 ≤ ps.length) && (decide (ps.length ≤ 12) && ps.all (fun p => decide ((-60000 ≤ p.1 ∧ p.1 ≤ 60000) ∧ 900 ≤ p.2 ∧ p.2 ≤ 1100)))) = true) : OkPs ps := by
  simp only [Bool.and_eq_true, decide_eq_true_eq, List.all_eq_true] at h
  exact ⟨h.1, h.2.1, fun p hp => ⟨(h.2.2 p hp).1, (h.2.2 p hp).2⟩⟩
theorem all_right : ∀ (xs acc : List D) (m : MO) (ρ : Env), IsHand m → acc.length + xs.length ≤ 1000 → ρ.length = 3 → ρ[1]? = some (some (.loc 0)) → ∃ m', IsHand m' ∧ lcL (gN 2) tYesD l0_law ρ xs acc [m] = .ok (acc ++ List.replicate xs.length (.bool true)) [m'] := by
  intro xs
  induction xs with
  | nil => exact fun acc m ρ H _ _ _ => ⟨m, H, by simp⟩
  | cons x xs ih =>
    intro acc m ρ H hl h1 h2
    obtain ⟨m1, H1, e1⟩ := is_right_ok H
    obtain ⟨m2, H2, e2⟩ := levels_ok H1
    obtain ⟨m3, H3, e3⟩ := refused_ok H2
    have hl' : acc.length + (xs.length + 1) ≤ 1000 := hl
    obtain ⟨m4, H4, e⟩ := ih (acc ++ [.bool true]) m3 ρ H3 (by simp; omega) h1 h2
    refine ⟨m4, H4, ?_⟩
    have hs : acc.length < sizeLine := Nat.lt_of_lt_of_le (by omega) (line1000 (Nat.le_refl 1000))
    have e3' : (ρ.set 2 (some (.d x)))[1]? = some (some (.loc 0)) := by rw [List.getElem?_set_ne (by decide)]; exact h2
    have e4 : l0_law (ρ.set 2 (some (.d x))) [m] = .ok (.d (.bool true)) [m3] := by simp [l0_law, e3', e1, e2, e3, PyData.truthy]
    unfold lcL
    simp [e4, hs, e, List.replicate_succ]
theorem near_of {ps : List Pr} {t : Tp} (hm : t ∈ apL ps) (hl : ∀ u ∈ apL ps, leT t u = true) : nearD ps = .tuple [.int (t.2.1 : Nat), .int (t.2.2 : Nat)] := by
  have sh := sort_head (apL ps)
  unfold nearD
  cases q : srt ps with
  | nil =>
    have : t ∈ srt ps := (srt_perm ps).mem_iff.mpr hm
    rw [q] at this
    cases this
  | cons a r =>
    have sp := sh.2
    rw [show (apL ps).mergeSort leT = a :: r from q, List.pairwise_cons] at sp
    have ta : t ∈ a :: r := by rw [← q]; exact (srt_perm ps).mem_iff.mpr hm
    have at' : leT a t = true := by
      rcases List.mem_cons.mp ta with z | z
      · rw [z]; exact leT_refl a
      · exact sp.1 t z
    have ha : a ∈ apL ps := (srt_perm ps).mem_iff.mp (by rw [q]; simp)
    rw [leT_anti at' (hl a ha)]
theorem law_true (ns : List Int) (h : ns.length ≤ 63) : ∃ S, g_law [.scr ns] [] = .ok (.d (.bool true)) S := by
  obtain ⟨m, H, e⟩ := hand_ok ns h
  have c1 : g_between [.d (.tuple [.int 1000, .int 1013]), .d (.tuple [.int 1000, .int 1000]), .d (.int 1013)] [m] = .ok (.d (.int 390)) [m] := by
    have := between_ok (S := [m]) (p := (1000, 1013)) (q := (1000, 1000)) (z := 1013) ⟨by decide, by decide⟩ ⟨by decide, by decide⟩ (by decide)
    rw [show (((tru (1000, 1013) 1013 - tru (1000, 1000) 1013).natAbs : Nat) : Int) = 390 by decide +kernel] at this
    exact this
  have c2 : g_kept_apart [.d (.tuple [.tuple [.int 0, .int 1000]]), .d (.int 500)] [m] = .ok (.d (.bool true)) [m] := by
    have := kept_ok (S := [m]) (ps := [(0, 1000)]) (least := 500) (okps_of (by decide +kernel)) ⟨by decide, by decide⟩
    rw [show keptB [(0, 1000)] 500 = true by decide +kernel] at this
    exact this
  have c3 : g_nearest_two [.d (.tuple [.tuple [.int 0, .int 1000], .tuple [.int 100, .int 1000], .tuple [.int 190, .int 1000]])] [m] = .ok (.d (.tuple [.int 1, .int 2])) [m] := by
    have := near_ok (S := [m]) (ps := [(0, 1000), (100, 1000), (190, 1000)]) (okps_of (by decide +kernel))
    rw [near_of (t := (90, 1, 2)) (by decide +kernel) (by decide +kernel)] at this
    exact this
  have c4 : g_nearest_two [.d (.tuple [.tuple [.int 0, .int 1000]])] [m] = .ok (.d .none) [m] := by
    have := near_ok (S := [m]) (ps := [(0, 1000)]) (okps_of (by decide +kernel))
    rw [show nearD [(0, 1000)] = .none by unfold nearD; rw [show srt [(0, 1000)] = [] by decide +kernel]] at this
    exact this
  have c5 : g_clear_levels [.d (.int 1013), .d (.int 1000), .d (.int 3000), .d (.int 10)] [m] = .ok (.d (.tuple [.int 10, .int 20, .int 30])) [m] := by
    have := clear_ok (S := [m]) (p := 1013) (lo := 1000) (hi := 3000) (st := 10) (by decide) (by decide) (by decide) (by decide)
    rw [show clearL 1013 1000 3000 10 = [10, 20, 30] by decide +kernel] at this
    exact this
  have c6 : g_clear_levels [.d (.int 1013), .d (.int 10), .d (.int 5), .d (.int 5)] [m] = .ok (.d (.tuple [])) [m] := by
    have := clear_ok (S := [m]) (p := 1013) (lo := 10) (hi := 5) (st := 5) (by decide) (by decide) (by decide) (by decide)
    rw [show clearL 1013 10 5 5 = [] by decide +kernel] at this
    exact this
  have n1 := oNe_same (d := .tuple [.int 1, .int 2]) (S := [m]) rfl
  have n2 := oNe_same (d := .tuple [.int 10, .int 20, .int 30]) (S := [m]) rfl
  have n3 := oNe_same (d := .tuple []) (S := [m]) rfl
  obtain ⟨m', H', al⟩ := all_right (rangeD 0 6) [] m [some (.scr ns), some (.loc 0), none] H (by decide) rfl rfl
  have key : b_law [some (.scr ns), none, none] [] = .ret (.d (.bool true)) [m'] := by
    rw [b_law, ap_sCons]
    conv => lhs; arg 1; simp [e]
    rw [seq_nx, ap_sCons]
    conv => lhs; arg 1; simp [c1, c2, oIs, isNone]
    rw [seq_nx, ap_sCons]
    conv => lhs; arg 1; simp [c3, c4, n1, oIs, isNone]
    rw [seq_nx, ap_sCons]
    conv => lhs; arg 1; simp [c5, c6, n2, n3]
    rw [seq_nx]
    simp at al
    simp [iRange, wipeE, al]
    rw [all_true _ rfl]
    rfl
  refine ⟨[m'].take 0, ?_⟩
  rw [g_law, ap_fnOf, show List.map some [Vl.scr ns] ++ List.replicate (3 - [Vl.scr ns].length) none = [some (.scr ns), none, none] from rfl, key]
  simp [leave]
end Dl
open PySem.W PyProof.Rows PySem
set_option maxHeartbeats 0 in
theorem PySem.Challenge.cw_airfield_k77_whole_heights_kept_apart_holds : PySem.Challenge.rw_airfield_k77_whole_heights_kept_apart.Holds := by
  w_on; o_law; k_head; (case hw => w_witness2)
  k_fill
  refine Dl.walk_fkT (l := PySem.Challenge.rw_airfield_k77_whole_heights_kept_apart) (n := 63) (k := 10) (x := "script") (g := Dl.g_law) rfl (by decide) rfl ⟨rfl, by decide, by decide⟩ (fun w h Y => PySem.W.km_in_of Y) ?F Dl.law_true
  case F =>
    intro w mg fa h KX G hmg TT
    refine' Dl.law_use (x := "law") (y := "law") (st := Dl.s_law) (p := "script") KX G hmg ?a ?l ?b (fun fd same bind => ?_); (case a => k_is); (case l => k_is); (case b => exact fun _ _ _ _ _ _ s v => .of_eq rfl)
    refine' Dl.tab_use (x := "_law_are_refused") TT rfl ?a ?l ?c ?lc ?v ?n (fun t_0 n_0 => ?_); (case a => k_is); (case l => k_is); (case c => exact rfl); (case lc => k_is); (case v => exact rfl); (case n => exact rfl)
    refine ⟨fd, [((_, _), ("_law_are_refused" ++ ".<locals>." ++ "<lambda>" : Str))], (List.forall_mem_cons.mpr ⟨t_0, (fun _ z => nomatch z)⟩), (List.forall_mem_cons.mpr ⟨n_0, (fun _ z => nomatch z)⟩), bind, fun base KB GB TB => ?_⟩
    refine Dl.ok_law (base := base) ⟨?_, ?_, ?_, ?_, ?_, ?_, ?_, ?_, ?_, ?_, ?_, ?_, ?_, ?_, ?_, ?_, ?_, ?_, ?_, ?_, ?_, ?_, ?_, ?_, ?_, ?_, ?_, ?_, ?_, ?_, ?_, ?_, ?_, ?_, ?_, ?_, ?_, ?_, ?_, ?_, ?_, ?_, ?_, ?_, ?_, ?_, ?_, ?_, ?_, ?_, ?_, ?_, ?_, ?_, ?_, ?_, ?_, ?_⟩ hmg same
    · refine' Dl.DefF.mk' KX G ?a ?l ?c ?k; (case a => k_is); (case l => k_is); (case c => k_is); (case k => k_is)
    · refine' Dl.DefF.mk' KX G ?a ?l ?c ?k; (case a => k_is); (case l => k_is); (case c => k_is); (case k => k_is)
    · refine' Dl.DefF.mk' KX G ?a ?l ?c ?k; (case a => k_is); (case l => k_is); (case c => k_is); (case k => k_is)
    · refine' Dl.DefF.mk' KX G ?a ?l ?c ?k; (case a => k_is); (case l => k_is); (case c => k_is); (case k => k_is)
    · refine' Dl.DefF.mk' KX G ?a ?l ?c ?k; (case a => k_is); (case l => k_is); (case c => k_is); (case k => k_is)
    · refine' Dl.DefF.mk' KX G ?a ?l ?c ?k; (case a => k_is); (case l => k_is); (case c => k_is); (case k => k_is)
    · refine' Dl.DefF.mk' KX G ?a ?l ?c ?k; (case a => k_is); (case l => k_is); (case c => k_is); (case k => k_is)
    · refine' Dl.DefF.mk' KX G ?a ?l ?c ?k; (case a => k_is); (case l => k_is); (case c => k_is); (case k => k_is)
    · refine' Dl.DefF.mk' KX G ?a ?l ?c ?k; (case a => k_is); (case l => k_is); (case c => k_is); (case k => k_is)
    · refine' Dl.DefF.mk' KX G ?a ?l ?c ?k; (case a => k_is); (case l => k_is); (case c => k_is); (case k => k_is)
    · refine' Dl.DefF.mk' KX G ?a ?l ?c ?k; (case a => k_is); (case l => k_is); (case c => k_is); (case k => k_is)
    · refine' Dl.DefF.mk' KX G ?a ?l ?c ?k; (case a => k_is); (case l => k_is); (case c => k_is); (case k => k_is)
    · refine' Dl.DefF.mk' KX G ?a ?l ?c ?k; (case a => k_is); (case l => k_is); (case c => k_is); (case k => k_is)
    · refine' Dl.DefF.mk' KX G ?a ?l ?c ?k; (case a => k_is); (case l => k_is); (case c => k_is); (case k => k_is)
    · refine' Dl.DefF.mk' KX G ?a ?l ?c ?k; (case a => k_is); (case l => k_is); (case c => k_is); (case k => k_is)
    · refine' Dl.DefF.mk' KX G ?a ?l ?c ?k; (case a => k_is); (case l => k_is); (case c => k_is); (case k => k_is)
    · refine' Dl.DefF.mk' KX G ?a ?l ?c ?k; (case a => k_is); (case l => k_is); (case c => k_is); (case k => k_is)
    · refine' Dl.DefF.mk' KX G ?a ?l ?c ?k; (case a => k_is); (case l => k_is); (case c => k_is); (case k => k_is)
    · refine' Dl.DefF.mk' KX G ?a ?l ?c ?k; (case a => k_is); (case l => k_is); (case c => k_is); (case k => k_is)
    · refine' Dl.DefF.mk' KX G ?a ?l ?c ?k; (case a => k_is); (case l => k_is); (case c => k_is); (case k => k_is)
    · refine' Dl.DefF.mk' KX G ?a ?l ?c ?k; (case a => k_is); (case l => k_is); (case c => k_is); (case k => k_is)
    · refine' Dl.DefF.mk' KX G ?a ?l ?c ?k; (case a => k_is); (case l => k_is); (case c => k_is); (case k => k_is)
    · refine' Dl.DefF.mk' KX G ?a ?l ?c ?k; (case a => k_is); (case l => k_is); (case c => k_is); (case k => k_is)
    · refine' Dl.DefF.mk' KX G ?a ?l ?c ?k; (case a => k_is); (case l => k_is); (case c => k_is); (case k => k_is)
    · refine' Dl.DefF.mk' KX G ?a ?l ?c ?k; (case a => k_is); (case l => k_is); (case c => k_is); (case k => k_is)
    · refine' Dl.DefF.mk' KX G ?a ?l ?c ?k; (case a => k_is); (case l => k_is); (case c => k_is); (case k => k_is)
    · refine' Dl.DefF.mk' KX G ?a ?l ?c ?k; (case a => k_is); (case l => k_is); (case c => k_is); (case k => k_is)
    · refine' Dl.DefF.mk' KX G ?a ?l ?c ?k; (case a => k_is); (case l => k_is); (case c => k_is); (case k => k_is)
    · refine' Dl.DefF.mk' KX G ?a ?l ?c ?k; (case a => k_is); (case l => k_is); (case c => k_is); (case k => k_is)
    · refine' Dl.DefL.mk' KX G (TB _ (.head _)) ?a ?l ?c ?k (.head _) (List.forall_mem_cons.mpr ⟨(fun _ => rfl), (fun _ z => nomatch z)⟩); (case a => k_is); (case l => k_is); (case c => k_is); (case k => k_is)
    · refine' Dl.DefF.mk' KX G ?a ?l ?c ?k; (case a => k_is); (case l => k_is); (case c => k_is); (case k => k_is)
    · refine' Dl.IsF.cls' KX G (by decide) [("NoNumber", true), ("NoPair", false), ("NoPairs", false)] ?a ?_; (case a => k_is)
      (refine' Dl.is_cons ?a ?k ?e1 ?e2 ?e3 ?e4 ?e5 ?e6 ?e7 ?e8 ?_; (case a => k_is); (case k => kit_is); (case e1 => k_is); (case e2 => k_is); (case e3 => k_is); (case e4 => k_is); (case e5 => k_is); (case e6 => k_is); (case e7 => k_is); (case e8 => k_is))
      (refine' Dl.is_cons ?a ?k ?e1 ?e2 ?e3 ?e4 ?e5 ?e6 ?e7 ?e8 ?_; (case a => k_is); (case k => kit_is); (case e1 => k_is); (case e2 => k_is); (case e3 => k_is); (case e4 => k_is); (case e5 => k_is); (case e6 => k_is); (case e7 => k_is); (case e8 => k_is))
      (refine' Dl.is_cons ?a ?k ?e1 ?e2 ?e3 ?e4 ?e5 ?e6 ?e7 ?e8 ?_; (case a => k_is); (case k => kit_is); (case e1 => k_is); (case e2 => k_is); (case e3 => k_is); (case e4 => k_is); (case e5 => k_is); (case e6 => k_is); (case e7 => k_is); (case e8 => k_is))
      exact Dl.is_nil
    · refine' Dl.IsF.cls' KX G (by decide) [("NoNumber", false), ("NoPair", true), ("NoPairs", false)] ?a ?_; (case a => k_is)
      (refine' Dl.is_cons ?a ?k ?e1 ?e2 ?e3 ?e4 ?e5 ?e6 ?e7 ?e8 ?_; (case a => k_is); (case k => kit_is); (case e1 => k_is); (case e2 => k_is); (case e3 => k_is); (case e4 => k_is); (case e5 => k_is); (case e6 => k_is); (case e7 => k_is); (case e8 => k_is))
      (refine' Dl.is_cons ?a ?k ?e1 ?e2 ?e3 ?e4 ?e5 ?e6 ?e7 ?e8 ?_; (case a => k_is); (case k => kit_is); (case e1 => k_is); (case e2 => k_is); (case e3 => k_is); (case e4 => k_is); (case e5 => k_is); (case e6 => k_is); (case e7 => k_is); (case e8 => k_is))
      (refine' Dl.is_cons ?a ?k ?e1 ?e2 ?e3 ?e4 ?e5 ?e6 ?e7 ?e8 ?_; (case a => k_is); (case k => kit_is); (case e1 => k_is); (case e2 => k_is); (case e3 => k_is); (case e4 => k_is); (case e5 => k_is); (case e6 => k_is); (case e7 => k_is); (case e8 => k_is))
      exact Dl.is_nil
    · refine' Dl.IsF.cls' KX G (by decide) [("NoNumber", false), ("NoPair", false), ("NoPairs", true)] ?a ?_; (case a => k_is)
      (refine' Dl.is_cons ?a ?k ?e1 ?e2 ?e3 ?e4 ?e5 ?e6 ?e7 ?e8 ?_; (case a => k_is); (case k => kit_is); (case e1 => k_is); (case e2 => k_is); (case e3 => k_is); (case e4 => k_is); (case e5 => k_is); (case e6 => k_is); (case e7 => k_is); (case e8 => k_is))
      (refine' Dl.is_cons ?a ?k ?e1 ?e2 ?e3 ?e4 ?e5 ?e6 ?e7 ?e8 ?_; (case a => k_is); (case k => kit_is); (case e1 => k_is); (case e2 => k_is); (case e3 => k_is); (case e4 => k_is); (case e5 => k_is); (case e6 => k_is); (case e7 => k_is); (case e8 => k_is))
      (refine' Dl.is_cons ?a ?k ?e1 ?e2 ?e3 ?e4 ?e5 ?e6 ?e7 ?e8 ?_; (case a => k_is); (case k => kit_is); (case e1 => k_is); (case e2 => k_is); (case e3 => k_is); (case e4 => k_is); (case e5 => k_is); (case e6 => k_is); (case e7 => k_is); (case e8 => k_is))
      exact Dl.is_nil
    · refine' Dl.IsF.blt' (T := "ValueError") KX G (by decide) (by decide) (by decide +kernel) [("NoNumber", true), ("NoPair", true), ("NoPairs", true)] ?a ?_; (case a => k_is)
      (refine' Dl.is_cons ?a ?k ?e1 ?e2 ?e3 ?e4 ?e5 ?e6 ?e7 ?e8 ?_; (case a => k_is); (case k => kit_is); (case e1 => k_is); (case e2 => k_is); (case e3 => k_is); (case e4 => k_is); (case e5 => k_is); (case e6 => k_is); (case e7 => k_is); (case e8 => k_is))
      (refine' Dl.is_cons ?a ?k ?e1 ?e2 ?e3 ?e4 ?e5 ?e6 ?e7 ?e8 ?_; (case a => k_is); (case k => kit_is); (case e1 => k_is); (case e2 => k_is); (case e3 => k_is); (case e4 => k_is); (case e5 => k_is); (case e6 => k_is); (case e7 => k_is); (case e8 => k_is))
      (refine' Dl.is_cons ?a ?k ?e1 ?e2 ?e3 ?e4 ?e5 ?e6 ?e7 ?e8 ?_; (case a => k_is); (case k => kit_is); (case e1 => k_is); (case e2 => k_is); (case e3 => k_is); (case e4 => k_is); (case e5 => k_is); (case e6 => k_is); (case e7 => k_is); (case e8 => k_is))
      exact Dl.is_nil
    · refine' Dl.TryF.mk' KX G [("NoNumber", true), ("NoPair", true), ("NoPairs", true)] ?a ?_; (case a => k_is)
      (refine' Dl.tr_cons ?a ?k ?_; (case a => k_is); (case k => kts_exm))
      (refine' Dl.tr_cons ?a ?k ?_; (case a => k_is); (case k => kts_exm))
      (refine' Dl.tr_cons ?a ?k ?_; (case a => k_is); (case k => kts_exm))
      exact Dl.tr_nil
    · refine' PySem.W.mg_none_of KX G ?z; (case z => k_is)
    · refine' PySem.W.mg_none_of KX G ?z; (case z => k_is)
    · refine' PySem.W.mg_none_of KX G ?z; (case z => k_is)
    · refine' PySem.W.mg_none_of KX G ?z; (case z => k_is)
    · refine' PySem.W.mg_none_of KX G ?z; (case z => k_is)
    · refine' PySem.W.mg_none_of KX G ?z; (case z => k_is)
    · refine' PySem.W.mg_none_of KX G ?z; (case z => k_is)
    · refine' PySem.W.mg_none_of KX G ?z; (case z => k_is)
    · refine' PySem.W.mg_none_of KX G ?z; (case z => k_is)
    · refine' PySem.W.mg_none_of KX G ?z; (case z => k_is)
    · refine' PySem.W.mg_none_of KX G ?z; (case z => k_is)
    · refine' PySem.W.mg_none_of KX G ?z; (case z => k_is)
    · refine' Dl.ExF.mk' KX G ?a ?b ?c ?d ?e; (case a => k_is); (case b => k_exc); (case c => k_is); (case d => k_is); (case e => k_is)
    · refine' Dl.ExF.mk' KX G ?a ?b ?c ?d ?e; (case a => k_is); (case b => k_exc); (case c => k_is); (case d => k_is); (case e => k_is)
    · refine' Dl.ExF.mk' KX G ?a ?b ?c ?d ?e; (case a => k_is); (case b => k_exc); (case c => k_is); (case d => k_is); (case e => k_is)
    · refine' Dl.IntF.mk' KX G ?a; (case a => k_is)
    · refine' Dl.IntF.mk' KX G ?a; (case a => k_is)
    · refine' Dl.IntF.mk' KX G ?a; (case a => k_is)
    · refine' Dl.IntF.mk' KX G ?a; (case a => k_is)
    · refine' Dl.IntF.mk' KX G ?a; (case a => k_is)
    · refine' Dl.IntF.mk' KX G ?a; (case a => k_is)
    · refine' Dl.IntF.mk' KX G ?a; (case a => k_is)
