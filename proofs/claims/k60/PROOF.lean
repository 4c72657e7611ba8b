import PyProof.Rows.All
import Wide.All
import OpenK.AllK
import Wide.FinOn
import HandS.ForMost
import HandS.Exc
import HandS.TryOnly
import HandS.ExcOwn
import HandS.WordsExc
import HandS.TupAny
import HandS.Zip
import HandS.Style
import HandS.Wide
import HandS.TupMul
import HandS.IsInst
import HandS.Deep
import HandS.Lambda
import KE.DataCmp
import KE.DataEq
import KE.DataFind
import KE.DataIsa
import KE.DataMinMax
import KE.DataAny
import KE.SortData
import HandS.Walk
import HandS.Flow
import HandS.HeadHook1
import KE.GoesEnum
import HandS.ExcIs
import KE.KDflt
import HandS.EndTab
import KE.KNest
import HandS.Dict
import KE.RegKTryMore
import KE.RegKIsAll
import KE.GoesZip
import KE.GoesMore
import HandS.Iter
import HandS.SetFor
import PySem.Challenge.RW_airfield_k60_whole_flights_of_a_night
set_option Elab.async false
set_option linter.all false
set_option maxRecDepth 100000
set_option maxHeartbeats 5000000
namespace Dl
open PySem.Spec PyProof.Rows PySem L2
structure Fk (P : Program) (w : World) (K : PySem.W.Frag) (mg : Str → Option Value) (base : Heap) (k : Nat) (f : Addr) (fd : FuncData) (ps : List Str) (sp : Sp) : Prop where
  many : ∀ vs H Q E, sp vs H Q E → vs.length = ps.length
  go : ∀ (B : Around) (fs : List PySem.Env) (s : Shared) (H : Hp) (as : Args) (us : List Value) (vs : List V) (Q : VK) (E : XK), Room k B → B.guards = some [] → Env0 P w K mg base B fs s H → BindsTo s fd as (ps.zip us) → Vals vs us → sp vs H Q E →
    codeAny (model P w) B (.call (.ref f) as) (CR (L2.CX P w) fs P w H s Q E) s
variable {P : Program} {w : World} {K : PySem.W.Frag} {mg : Str → Option Value} {base : Heap}
theorem Fk.mono {j k : Nat} {f : Addr} {fd : FuncData} {ps : List Str} {sp : Sp} (F : Fk P w K mg base j f fd ps sp) (h : j ≤ k) : Fk P w K mg base k f fd ps sp :=
  ⟨F.many, fun B fs s H as us vs Q E r => F.go B fs s H as us vs Q E (r.mono h)⟩
theorem fk_of {x q : Str} {st : Stmt} {f : Addr} {fd : FuncData} {N ps : List Str} {k : Nat} {sp : Sp} (F : Fun K x q st f fd) (S : FnScope N ps (defScope st)) (many : ∀ vs H Q E, sp vs H Q E → vs.length = ps.length)
    (body : ∀ (cdv : Value), fd.code = cdv → ∀ (B : Around) (fs : List PySem.Env) (s : Shared) (H : Hp) (vs : List V) (Q : VK) (E : XK), Room k (B.deeper (envOfC q (defScope st) s.heap.objs.size f cdv)) → B.guards = some [] → sp vs H Q E →
      ∃ t, PSs (cxOf (L2.CX P w) P w K mg base N q (defScope st) f cdv B fs s H E) (defBody st) t ∧ t { nx := fun _ H2 => Q .non H2, rt := Q } (start N vs) H) : Fk P w K mg base (k + 1) f fd ps sp := by
  obtain ⟨oc, od, kV, doc, pm, an, cdv, ct, osl, rfl, look, code⟩ := F.ex
  refine ⟨many, fun B fs s H as us vs Q E room gd env bind vals prom => ?_⟩
  have ln := many _ _ _ _ prom
  have inK : K.In s.heap := env.mod.kin.keeps fun b o e => (env.bs b o e).1
  have noLim : s.heap.NoLimit := env.mod.nolimit.keeps fun b o e => (env.bs b o e).1
  refine codeAny_call_function room.depth (inK _ _ look) rfl S.co S.gen rfl (PySem.W.codeRec_of inK code) (bind _ _ _ _ ?_)
  refine wpAny_newFunctionEnv_cells S.kind (fun y hy => ?_) fun ev hev s1 ic => ?_
  · have par := S.par y.1 (List.of_mem_zip (show (y.1, y.2) ∈ ps.zip us from hy)).1
    exact par.imp (fun l => l) fun c => ⟨c, PySem.W.cellsFrom_some _ _ _ (.inl c)⟩
  · subst hev
    refine ⟨noLim.keeps ic.toInCall.keep, codeAny_func ?_⟩
    obtain ⟨t, pss, tq⟩ := body cdv rfl B fs s H vs Q E (room.deeper _) gd prom
    have J := inv_start (CX := L2.CX P w) (E := E) S room.hd env ln vals ic
    refine wpAny_mono (pss.run [] s1 (start N vs) H _ J tq) (fun fl s2 done => ?_) fun _ _ out => out
    cases fl with
    | ret u =>
      obtain ⟨v, σ2, H2, J2, rv, q2⟩ := done
      exact ⟨v, H2, J2.os, J2.bare, J2.base, J2.hok, rv, q2⟩
    | next =>
      obtain ⟨σ2, H2, J2, q2⟩ := done
      exact ⟨.non, H2, J2.os, J2.bare, J2.base, J2.hok, rfl, q2⟩
    | brk =>
      obtain ⟨_, _, _, z⟩ := done
      exact (show False from z).elim
    | cont =>
      obtain ⟨_, _, _, z⟩ := done
      exact (show False from z).elim
section
variable {X : Cx} {k : Nat} {f : Addr} {fd : FuncData} {ps : List Str} {sp : Sp} {W : WX}
theorem run_fk {pins : List (Addr × Obj)} {σ : L2.St} {H : Hp} {s : Shared} {Q : VK} {us : List Value} {vs : List V} (G : Fk X.prog X.w X.K X.mg X.base k f fd ps sp) (room : Room k X.A) (gd : X.A.guards = some []) (bi : Binds X.K fd ps []) (tk : Takes X W)
    (J : Inv X pins σ H s) (r : Vals vs us) (prom : sp vs H Q fun c d H2 => W c d σ H2) : wpAny (model X.prog X.w) X.A (call (.ref f) us) (EP X pins σ Q) X.xe s := by
  have ln : us.length = ps.length := r.length.symm.trans (G.many _ _ _ _ prom)
  have bd := bi s us J.kIn (by rw [List.append_nil]; exact ln)
  rw [List.append_nil] at bd
  refine wpAny_call (codeAny_mono (G.go X.A X.stack s H ⟨us, []⟩ us vs Q _ room gd J.env0 bd r prom) fun res s2 done => ?_)
  cases res with
  | error e => exact tk e s2 (XE.of_call J (fun _ _ _ z => z) done)
  | ok fl =>
    cases fl with
    | ret u => exact J.after done
    | next => exact done.elim
    | brk => exact done.elim
    | cont => exact done.elim
theorem pe_callk {x : Str} {p pos : Pos} {e : Expr} {es : List Expr} {t : TA} (G : Fk X.prog X.w X.K X.mg X.base k f fd ps sp) (room : Room k X.A) (gd : X.A.guards = some []) (tk : Takes X W) (glob : Gl X x) (there : X.mg x = some (.ref f)) (keep : PySem.W.keepIn X.K (.ref f) = true)
    (bi : Binds X.K fd ps []) (ha : PA X (e :: es) t) (nd : (x == ("__debug__" : Str)) = false := by decide) (h1 : starEach (e :: es) X.env = (false, eval e X.env) :: starEach es X.env := by rfl) (h2 : (backTo pos (starEach es X.env)).any (·.1) = false := by rfl) :
    PE X (.Call (.Name x p) (e :: es) [] pos) (fun σ H Q => t σ H fun vs H1 => sp vs H1 Q fun c d H2 => W c d σ H2) := ⟨fun pins s σ H Q J h =>
  wpAny_Call_Name_kw (ld_glob J glob there (PySem.W.callWith_K (h₀ := X.base) J.ok.mod.kin keep (thn (ha.run pos pins s σ H _ J h) fun us s1 ⟨vs, H1, J1, r, q⟩ => ⟨J1.kIn, run_fk G room gd bi tk J1 r q⟩) h1 h2) nd)⟩
theorem pe_callk0 {x : Str} {p pos : Pos} (G : Fk X.prog X.w X.K X.mg X.base k f fd ps sp) (room : Room k X.A) (gd : X.A.guards = some []) (tk : Takes X W) (glob : Gl X x) (there : X.mg x = some (.ref f)) (keep : PySem.W.keepIn X.K (.ref f) = true)
    (bi : Binds X.K fd ps []) (nd : (x == ("__debug__" : Str)) = false := by decide) : PE X (.Call (.Name x p) [] [] pos) (fun σ H Q => sp [] H Q fun c d H2 => W c d σ H2) := ⟨fun pins s σ H Q J h =>
  wpAny_Call_Name_kw (ld_glob J glob there (PySem.W.callWith_K0 J.kIn keep (run_fk (us := []) G room gd bi tk J .nil h)) nd)⟩
end
theorem law_at {k : Nat} {fa a : Addr} {fd : FuncData} {x : Str} {sp : Sp} {s : Shared} {mb : Str → Option Value} {ob : Obj} {H : Hp} (inK : K.In s.heap) (ns : s.heap.Ns mainGlobals mg) (nb : s.heap.Ns builtinsNs mb) (bb : ∀ x : Str, x ≠ "__name__" → mb x = bootBuiltins x)
    (lim : s.heap.NoLimit) (gn : s.gens = #[]) (at_ : s.heap.get? a = some ob) (lst : ∀ es ep, ob.data ≠ .dict es ep) (room : Room k callerA) (F : ∀ base : Heap, K.In base → base.Ns mainGlobals mg → Fk P w K mg base k fa fd [x] sp) (bind : ∀ (s : Shared) (u : Value), BindsTo s fd ⟨[u], []⟩ [(x, u)])
    (hok : HOk P w H s.heap) (only : ∀ b, H b ≠ none → b = a) (fz : H a ≠ none → K.lookup a = none ∧ ∃ u, H a = some (.frz ob u)) (prom : sp [.ref a] H (fun v _ => v = .bl true) fun _ _ _ => False) :
    codeAny (model P w) callerA (.call (.ref fa) ⟨[.ref a], []⟩) (fun r s' => r = .ok (.ret (.bool true)) ∧ OldK s.heap s'.heap ∧ s'.os = s.os ∧ AllBare s'.gens) s := by
  have free : ∀ {b : Addr} {o : Obj}, b ≠ a → H b = none := fun {b _} nb => by
    cases q : H b with
    | none => rfl
    | some u => exact absurd (only b (by rw [q]; simp)) nb
  have dictFree : ∀ {b : Addr} {o : Obj} {es : Array DictEntry} {ep : Nat}, s.heap.get? b = some o → o.data = .dict es ep → H b = none := fun {b o es ep} e d => by
    by_cases z : b = a
    · subst z
      rw [at_] at e
      cases e
      exact absurd d (lst es ep)
    · exact free (o := o) z
  have kFree : ∀ b o, K.lookup b = some o → H b = none := fun b o e => by
    by_cases z : b = a
    · subst z
      cases q : H b with
      | none => rfl
      | some u => rw [(fz (by rw [q]; simp)).1] at e; cases e
    · exact free (o := o) z
  have nsUp : ∀ {b : Addr} {m : Str → Option Value}, s.heap.Ns b m → (hidT s.heap H).Ns b m := fun {b m} ⟨o, es, ep, e, d, r⟩ => ⟨o, es, ep, hidT_get e (dictFree e d), d, r⟩
  have kBase : K.In (hidT s.heap H) := fun b o e => hidT_get (inK b o e) (kFree b o e)
  have md : Mod K mg (hidT s.heap H) := ⟨kBase, nsUp ns, ⟨mb, nsUp nb, bb⟩, lim.imp fun _ z => ⟨nsUp z.1, z.2⟩⟩
  have env : Env0 P w K mg (hidT s.heap H) callerA [] s H := ⟨rfl, md, fun b o e => of_hidT e, Nat.le_of_eq (hidT_size _ _), trivial, fun b hb => absurd (show b ∈ ([] : List Addr) from hb) (by simp), hok, .of_eq gn⟩
  refine codeAny_mono ((F _ kBase (nsUp ns)).go callerA [] s H ⟨[.ref a], []⟩ [.ref a] [.ref a] _ _ room rfl env (bind s (.ref a)) (.cons rfl .nil) prom) fun r s2 done => ?_
  cases r with
  | error e =>
    obtain ⟨_, _, _, _, _, _, _, _, _, _, _, _, z⟩ := (show L2.CX P w [] H s (fun _ _ _ => False) e s2 from done)
    exact z.elim
  | ok fl =>
    cases fl with
    | next => exact (show False from done).elim
    | brk => exact (show False from done).elim
    | cont => exact (show False from done).elim
    | ret u =>
      obtain ⟨v, H2, os2, bare2, un, hok2, rv, qv⟩ := (show CE [] P w H s _ u s2 from done)
      have ev : v = .bl true := qv
      subst ev
      obtain rfl : u = Value.bool true := rv
      refine ⟨rfl, OldK.of_keep fun b o e => ?_, os2, bare2⟩
      cases q : H b with
      | none => exact un.keep b o e q (by intro z; exact absurd (show b ∈ ([] : List Addr) from z) (by simp)) (by simp)
      | some u =>
        have eb := only b (by rw [q]; simp)
        subst eb
        obtain ⟨_, u', z⟩ := fz (by rw [q]; simp)
        have e2 := (show s2.heap.get? b = some ob ∧ _ from hok2 b _ (un.frzs b ob u' z)).1
        rw [at_] at e
        cases e
        exact e2
def scriptH (a : Addr) (o : Obj) (ns : List Int) : Hp := fun b => if b = a then some (.frz o (.lst (ns.map V.int))) else none
theorem scriptH_at {a : Addr} {o : Obj} {ns : List Int} : scriptH a o ns a = some (.frz o (.lst (ns.map V.int))) := if_pos rfl
abbrev D := PyData
abbrev Tb := List (Addr × Str)
def KTup (K : PySem.W.Frag) (a : Addr) (xs : List V) : Prop :=
  ∃ (o : Obj) (its : Array Value) (n : Nat), K.lookup a = some o ∧ o.cls = .type "tuple" ∧ o.data = .seq its n ∧ its.size ≤ sizeLine ∧ Vals xs its.toList
def KLst (K : PySem.W.Frag) (a : Addr) (xs : List V) : Prop :=
  ∃ (o : Obj) (its : Array Value) (n : Nat), K.lookup a = some o ∧ o.cls = .type "list" ∧ o.dict = none ∧ o.data = .seq its n ∧ its.size ≤ sizeLine ∧ Vals xs its.toList
def FqT (K : PySem.W.Frag) (F : Addr → Prop) (H : Hp) (a : Addr) (xs : List V) : Prop := (F a ∧ H a = some (.tup xs)) ∨ KTup K a xs
theorem FqT.sq {K : PySem.W.Frag} {F : Addr → Prop} {H : Hp} {a : Addr} {xs : List V} (h : FqT K F H a xs) : SqT K H a xs := by
  rcases h with ⟨_, h⟩ | h
  · exact .inl (.inl h)
  · exact .inr h
def kD : Key → D
  | .inl i => .int i
  | .inr x => .str x
mutual
inductive Fz (K : PySem.W.Frag) (F : Addr → Prop) (H : Hp) : V → D → Prop
  | non : Fz K F H .non .none
  | bl (b : Bool) : Fz K F H (.bl b) (.bool b)
  | int (i : Int) : Fz K F H (.int i) (.int i)
  | str (x : Str) : Fz K F H (.str x) (.str x)
  | lst {a : Addr} {xs : List V} {ds : List D} : F a → H a = some (.lst xs) → FzAll K F H xs ds → Fz K F H (.ref a) (.list ds)
  | tup {a : Addr} {xs : List V} {ds : List D} : FqT K F H a xs → FzAll K F H xs ds → Fz K F H (.ref a) (.tuple ds)
  | dct {a : Addr} {kvs : List (Key × V)} {es : List (D × D)} : F a → H a = some (.dK kvs) → FzKv K F H kvs es → Fz K F H (.ref a) (.dict es)
inductive FzAll (K : PySem.W.Frag) (F : Addr → Prop) (H : Hp) : List V → List D → Prop
  | nil : FzAll K F H [] []
  | cons {v : V} {vs : List V} {d : D} {ds : List D} : Fz K F H v d → FzAll K F H vs ds → FzAll K F H (v :: vs) (d :: ds)
inductive FzKv (K : PySem.W.Frag) (F : Addr → Prop) (H : Hp) : List (Key × V) → List (D × D) → Prop
  | nil : FzKv K F H [] []
  | cons {k : Key} {v : V} {vs : List (Key × V)} {d : D} {ds : List (D × D)} : Fz K F H v d → FzKv K F H vs ds → FzKv K F H ((k, v) :: vs) ((kD k, d) :: ds)
end
section
variable {K : PySem.W.Frag} {F F' : Addr → Prop} {H H' : Hp}
theorem FqT.ext {a : Addr} {xs : List V} (hs : ∀ a, F a → F' a) (he : ∀ a, F a → H' a = H a) (h : FqT K F H a xs) : FqT K F' H' a xs := by
  rcases h with ⟨h1, h2⟩ | h
  · exact .inl ⟨hs _ h1, (he _ h1).trans h2⟩
  · exact .inr h
mutual
theorem Fz.ext (hs : ∀ a, F a → F' a) (he : ∀ a, F a → H' a = H a) : ∀ (d : D) (v : V), Fz K F H v d → Fz K F' H' v d
  | .none, _, h => by cases h; exact .non
  | .bool b, _, h => by cases h; exact .bl b
  | .int i, _, h => by cases h; exact .int i
  | .str x, _, h => by cases h; exact .str x
  | .list ds, _, h => by
    cases h with
    | lst h1 h2 h3 => exact .lst (hs _ h1) ((he _ h1).trans h2) (FzAll.ext hs he ds _ h3)
  | .tuple ds, _, h => by
    cases h with
    | tup h1 h2 => exact .tup (h1.ext hs he) (FzAll.ext hs he ds _ h2)
  | .dict ds, _, h => by
    cases h with
    | dct h1 h2 h3 => exact .dct (hs _ h1) ((he _ h1).trans h2) (FzKv.ext hs he ds _ h3)
theorem FzAll.ext (hs : ∀ a, F a → F' a) (he : ∀ a, F a → H' a = H a) : ∀ (ds : List D) (vs : List V), FzAll K F H vs ds → FzAll K F' H' vs ds
  | [], _, h => by cases h; exact .nil
  | d :: ds, _, h => by
    cases h with
    | cons h1 h2 => exact .cons (Fz.ext hs he d _ h1) (FzAll.ext hs he ds _ h2)
theorem FzKv.ext (hs : ∀ a, F a → F' a) (he : ∀ a, F a → H' a = H a) : ∀ (ds : List (D × D)) (vs : List (Key × V)), FzKv K F H vs ds → FzKv K F' H' vs ds
  | [], _, h => by cases h; exact .nil
  | (_, d) :: ds, _, h => by
    cases h with
    | cons h1 h2 => exact .cons (Fz.ext hs he d _ h1) (FzKv.ext hs he ds _ h2)
end
theorem FzAll.len : ∀ {vs : List V} {ds : List D}, FzAll K F H vs ds → vs.length = ds.length
  | [], [], _ => rfl
  | _ :: _, _ :: _, .cons _ h => by rw [List.length_cons, List.length_cons, FzAll.len h]
theorem FzAll.get : ∀ {vs : List V} {ds : List D} {i : Nat} {d : D}, FzAll K F H vs ds → ds[i]? = some d → ∃ v, vs[i]? = some v ∧ Fz K F H v d
  | _, _, _, _, .nil, e => by simp at e
  | _ :: _, _ :: _, 0, _, .cons h _, e => by simp at e; subst e; exact ⟨_, rfl, h⟩
  | _ :: _, _ :: _, i + 1, d, .cons _ h, e => by
    obtain ⟨v, h1, h2⟩ := FzAll.get (i := i) (d := d) h (by simpa using e)
    exact ⟨v, by simpa using h1, h2⟩
theorem FzAll.set {v : V} {d : D} (r : Fz K F H v d) : ∀ {vs : List V} {ds : List D} (i : Nat), FzAll K F H vs ds → FzAll K F H (vs.set i v) (ds.set i d)
  | _, _, _, .nil => .nil
  | _, _, 0, .cons _ t => .cons r t
  | _, _, i + 1, .cons q t => .cons q (FzAll.set r i t)
theorem FzAll.append : ∀ {xs ys : List V} {ds es : List D}, FzAll K F H xs ds → FzAll K F H ys es → FzAll K F H (xs ++ ys) (ds ++ es)
  | _, _, _, _, .nil, s => s
  | _, _, _, _, .cons r t, s => .cons r (FzAll.append t s)
theorem FzAll.take : ∀ {xs : List V} {ds : List D} (n : Nat), FzAll K F H xs ds → FzAll K F H (xs.take n) (ds.take n)
  | _, _, 0, _ => .nil
  | _, _, _ + 1, .nil => .nil
  | _, _, n + 1, .cons r t => .cons r (FzAll.take n t)
theorem FzAll.drop : ∀ {xs : List V} {ds : List D} (n : Nat), FzAll K F H xs ds → FzAll K F H (xs.drop n) (ds.drop n)
  | _, _, 0, r => r
  | _, _, _ + 1, .nil => .nil
  | _, _, n + 1, .cons _ t => FzAll.drop n t
end
inductive MO where
  | lst (xs : List D) | dct (es : List (D × D)) | fz (x : D)
abbrev Store := List MO
inductive Ty where
  | int | bool | str | tup | lst | dct
  deriving DecidableEq
def Ty.name : Ty → String
  | .int => "int"
  | .bool => "bool"
  | .str => "str"
  | .tup => "tuple"
  | .lst => "list"
  | .dct => "dict"
structure Ext (n : Nat) (φ : Nat → Addr) (F : Addr → Prop) (H : Hp) (φ' : Nat → Addr) (F' : Addr → Prop) (H' : Hp) : Prop where
  sub : ∀ a, F a → F' a
  same : ∀ a, F a → H' a = H a
  loc : ∀ i, i < n → φ' i = φ i
structure LamP where
  P : (Nat → Addr) → (Addr → Prop) → Hp → Nat → V → Prop
  ext : ∀ {n m : Nat} {φ : Nat → Addr} {F : Addr → Prop} {H : Hp} {φ' : Nat → Addr} {F' : Addr → Prop} {H' : Hp} (v : V), Ext n φ F H φ' F' H' → n ≤ m → P φ F H n v → P φ' F' H' m v
inductive Vl where
  | d (x : D) | loc (n : Nat) | glo (x : Str) | ty (T : Ty) | tys (Ts : List Ty) | scr (xs : List Int) | xa (a : Addr) | lam (p : LamP) | glos (xs : List Str)
abbrev Env := List (Option Vl)
structure Xn where
  cls : Str
  fs : List (Str × D)
inductive Res (α : Type) where
  | ok (a : α) (S : Store) | ex (e : Xn) (S : Store) | bad
def Res.bind {α β : Type} (r : Res α) (k : α → Store → Res β) : Res β := match r with
  | .ok a S => k a S
  | .ex e S => .ex e S
  | .bad => .bad
@[simp] theorem bind_ok {α β : Type} (a : α) (S : Store) (k : α → Store → Res β) : (Res.ok a S).bind k = k a S := rfl
@[simp] theorem bind_ex {α β : Type} (e : Xn) (S : Store) (k : α → Store → Res β) : (Res.ex e S : Res α).bind k = .ex e S := rfl
@[simp] theorem bind_bad {α β : Type} (k : α → Store → Res β) : (Res.bad : Res α).bind k = .bad := rfl
abbrev Ev := Env → Store → Res Vl
abbrev Tv := Env → Store → Res Bool
abbrev Av := Env → Store → Res (List Vl)
inductive SRes where
  | nx (ρ : Env) (S : Store) | ret (v : Vl) (S : Store) | bk (ρ : Env) (S : Store) | ct (ρ : Env) (S : Store) | ex (e : Xn) (ρ : Env) (S : Store) | bad
abbrev Sv := Env → Store → SRes
abbrev Fn := List Vl → Store → Res Vl
section
variable (τ : Tb) (K : PySem.W.Frag) (mg : Str → Option Value)
def MOk (F : Addr → Prop) (H : Hp) (a : Addr) : MO → Prop
  | .lst ds => ¬ F a ∧ ∃ xs, H a = some (.lst xs) ∧ FzAll K F H xs ds
  | .dct es => ¬ F a ∧ ∃ kvs, H a = some (.dK kvs) ∧ FzKv K F H kvs es
  | .fz x => Fz K F H (.ref a) x ∧ H a ≠ none
def MO.live : MO → Bool
  | .fz _ => false
  | _ => true
structure SG (φ : Nat → Addr) (F : Addr → Prop) (H : Hp) (S : Store) : Prop where
  dom : ∀ a, F a → H a ≠ none
  obj : ∀ i o, S[i]? = some o → MOk K F H (φ i) o
  inj : ∀ i j, i < S.length → j < S.length → φ i = φ j → i = j
  tab : LamX.Tabs τ H
  ntab : ∀ q ∈ τ, ¬ F q.1
  only : ∀ a ps, H a = some (.tbl ps) → ∃ q ∈ τ, q.1 = a
  codes : ∀ a c q, H a = some (LamX.CodeO c q) → F a
def RepG : List V → List Str → Prop
  | [], [] => True
  | v :: vs, x :: xs => (∃ u, mg x = some u ∧ RelV v u) ∧ RepG vs xs
  | _, _ => False
def RepV (φ : Nat → Addr) (F : Addr → Prop) (H : Hp) (n : Nat) (v : V) : Vl → Prop
  | .d x => Fz K F H v x
  | .loc i => i < n ∧ v = .ref (φ i)
  | .glo x => ∃ u, mg x = some u ∧ RelV v u
  | .ty T => v = .ty T.name
  | .tys Ts => ∃ a, v = .ref a ∧ F a ∧ H a = some (.tup (Ts.map fun T => V.ty T.name))
  | .scr xs => ∃ a, v = .ref a ∧ ((F a ∧ ∃ o, H a = some (.frz o (.lst (xs.map V.int)))) ∨ KLst K a (xs.map V.int))
  | .xa a => v = .ref a
  | .lam p => p.P φ F H n v
  | .glos xs => ∃ a vs, v = .ref a ∧ F a ∧ H a = some (.tup vs) ∧ RepG mg vs xs
def RepVs (φ : Nat → Addr) (F : Addr → Prop) (H : Hp) (n : Nat) : List V → List Vl → Prop
  | [], [] => True
  | v :: vs, x :: xs => RepV K mg φ F H n v x ∧ RepVs φ F H n vs xs
  | _, _ => False
def Slots (φ : Nat → Addr) (F : Addr → Prop) (H : Hp) (n : Nat) (σ : L2.St) (ρ : Env) : Prop :=
  σ.length = ρ.length ∧ ∀ (i : Nat) (x : Vl), ρ[i]? = some (some x) → ∃ v, σ[i]? = some (some v) ∧ RepV K mg φ F H n v x
def RepX (F : Addr → Prop) (H : Hp) (c : Value) (od : Option Addr) (e : Xn) : Prop :=
  mg e.cls = some c ∧ match e.fs with
    | [] => od = none
    | fs => ∃ d vs, od = some d ∧ H d = some (.xd vs) ∧ vs.map (·.1) = fs.map (·.1) ∧ FzAll K F H (vs.map (·.2)) (fs.map (·.2))
structure Now (n : Nat) (φ : Nat → Addr) (F : Addr → Prop) (H : Hp) (φ' : Nat → Addr) (F' : Addr → Prop) (H' : Hp) (S' : Store) : Prop where
  ext : Ext n φ F H φ' F' H'
  sg : SG τ K φ' F' H' S'
  le : n ≤ S'.length
  rest : ∀ a, H a ≠ none → (∀ ps, H a ≠ some (.tbl ps)) → (∀ i, i < n → φ i ≠ a) → H' a = H a
  alive : ∀ a, H a ≠ none → H' a ≠ none
  new : ∀ i, n ≤ i → i < S'.length → H (φ' i) = none
  fnew : ∀ a, F' a → F a ∨ H a = none ∨ ∃ i, i < n ∧ φ i = a
abbrev XW := Value → Option Addr → Hp → Prop
def PostG {α β : Type} (R : (Nat → Addr) → (Addr → Prop) → Hp → Nat → β → α → Prop) (W : XW) (n : Nat) (φ : Nat → Addr) (F : Addr → Prop) (H : Hp) (Q : β → Hp → Prop) : Res α → Prop
  | .ok v S' => ∀ φ' F' H', Now τ K n φ F H φ' F' H' S' → ∀ x, R φ' F' H' S'.length x v → Q x H'
  | .ex e S' => ∀ φ' F' H', Now τ K n φ F H φ' F' H' S' → ∀ c od, RepX K mg F' H' c od e → W c od H'
  | .bad => False
abbrev RepB : (Nat → Addr) → (Addr → Prop) → Hp → Nat → Bool → Bool → Prop := fun _ _ _ _ x v => x = v
abbrev Post : XW → Nat → (Nat → Addr) → (Addr → Prop) → Hp → VK → Res Vl → Prop := PostG τ K mg (RepV K mg)
abbrev PostT : XW → Nat → (Nat → Addr) → (Addr → Prop) → Hp → (Bool → Hp → Prop) → Res Bool → Prop := PostG τ K mg RepB
abbrev PostA : XW → Nat → (Nat → Addr) → (Addr → Prop) → Hp → (List V → Hp → Prop) → Res (List Vl) → Prop := PostG τ K mg (RepVs K mg)
def PostS (W : WX) (n : Nat) (φ : Nat → Addr) (F : Addr → Prop) (H : Hp) (E : Ends) : SRes → Prop
  | .nx ρ S' => ∀ φ' F' H', Now τ K n φ F H φ' F' H' S' → ∀ σ', Slots K mg φ' F' H' S'.length σ' ρ → E.nx σ' H'
  | .bk ρ S' => ∀ φ' F' H', Now τ K n φ F H φ' F' H' S' → ∀ σ', Slots K mg φ' F' H' S'.length σ' ρ → E.bk σ' H'
  | .ct ρ S' => ∀ φ' F' H', Now τ K n φ F H φ' F' H' S' → ∀ σ', Slots K mg φ' F' H' S'.length σ' ρ → E.ct σ' H'
  | .ret v S' => ∀ φ' F' H', Now τ K n φ F H φ' F' H' S' → ∀ x, RepV K mg φ' F' H' S'.length x v → E.rt x H'
  | .ex e ρ S' => ∀ φ' F' H', Now τ K n φ F H φ' F' H' S' → ∀ c od, RepX K mg F' H' c od e → ∀ σ', Slots K mg φ' F' H' S'.length σ' ρ → W c od σ' H'
  | .bad => False
def RE (W : WX) (f : Ev) : TE := fun σ H Q => ∃ φ F ρ S, SG τ K φ F H S ∧ Slots K mg φ F H S.length σ ρ ∧ Post τ K mg (fun c od H' => W c od σ H') S.length φ F H Q (f ρ S)
def RT (W : WX) (f : Tv) : TT := fun σ H Q => ∃ φ F ρ S, SG τ K φ F H S ∧ Slots K mg φ F H S.length σ ρ ∧ PostT τ K mg (fun c od H' => W c od σ H') S.length φ F H Q (f ρ S)
def RA (W : WX) (f : Av) : TA := fun σ H Q => ∃ φ F ρ S, SG τ K φ F H S ∧ Slots K mg φ F H S.length σ ρ ∧ PostA τ K mg (fun c od H' => W c od σ H') S.length φ F H Q (f ρ S)
def RS (W : WX) (f : Sv) : TS := fun E σ H => ∃ φ F ρ S, SG τ K φ F H S ∧ Slots K mg φ F H S.length σ ρ ∧ PostS τ K mg W S.length φ F H E (f ρ S)
def spF (g : Fn) : Sp := fun vs H Q E => ∃ φ F xs S, SG τ K φ F H S ∧ RepVs K mg φ F H S.length vs xs ∧ Post τ K mg E S.length φ F H Q (g xs S)
end
structure DE (τ : Tb) (X : Cx) (W : WX) (e : Expr) (f : Ev) : Prop where
  r : PE X e (RE τ X.K X.mg W f)
structure DT (τ : Tb) (X : Cx) (W : WX) (e : Expr) (f : Tv) : Prop where
  r : PT X e (RT τ X.K X.mg W f)
structure DW (τ : Tb) (X : Cx) (W : WX) (e : Expr) (f : Tv) : Prop where
  r : PW X e (RT τ X.K X.mg W f)
structure DA (τ : Tb) (X : Cx) (W : WX) (es : List Expr) (f : Av) : Prop where
  r : PA X es (RA τ X.K X.mg W f)
structure DS (τ : Tb) (X : Cx) (W : WX) (s : Stmt) (f : Sv) : Prop where
  r : PS X s (RS τ X.K X.mg W f)
structure DB (τ : Tb) (X : Cx) (W : WX) (ss : List Stmt) (f : Sv) : Prop where
  r : PSs X ss (RS τ X.K X.mg W f)
theorem PE.mono {X : Cx} {e : Expr} {t t' : TE} (h : PE X e t) (m : ∀ σ H Q, t' σ H Q → t σ H Q) : PE X e t' := ⟨fun pins s σ H Q I q => h.run pins s σ H Q I (m _ _ _ q)⟩
theorem PT.mono {X : Cx} {e : Expr} {t t' : TT} (h : PT X e t) (m : ∀ σ H Q, t' σ H Q → t σ H Q) : PT X e t' := ⟨fun pins s σ H Q I q => h.run pins s σ H Q I (m _ _ _ q)⟩
theorem PW.mono {X : Cx} {e : Expr} {t t' : TT} (h : PW X e t) (m : ∀ σ H Q, t' σ H Q → t σ H Q) : PW X e t' := ⟨fun w pins s σ H Q I q => h.run w pins s σ H Q I (m _ _ _ q)⟩
theorem PA.mono {X : Cx} {e : List Expr} {t t' : TA} (h : PA X e t) (m : ∀ σ H Q, t' σ H Q → t σ H Q) : PA X e t' := ⟨fun p pins s σ H Q I q => h.run p pins s σ H Q I (m _ _ _ q)⟩
theorem PS.mono {X : Cx} {e : Stmt} {t t' : TS} (h : PS X e t) (m : ∀ E σ H, t' E σ H → t E σ H) : PS X e t' := ⟨fun pins s σ H Q I q => h.run pins s σ H Q I (m _ _ _ q)⟩
theorem PSs.mono {X : Cx} {e : List Stmt} {t t' : TS} (h : PSs X e t) (m : ∀ E σ H, t' E σ H → t E σ H) : PSs X e t' := ⟨fun pins s σ H Q I q => h.run pins s σ H Q I (m _ _ _ q)⟩
section
variable {K : PySem.W.Frag} {mg : Str → Option Value} {φ φ' φ1 φ2 : Nat → Addr} {F F' F1 F2 : Addr → Prop} {H H' H1 H2 : Hp} {n n' m : Nat} {S S' S1 : Store}
theorem Ext.refl : Ext n φ F H φ F H := ⟨fun _ h => h, fun _ _ => rfl, fun _ _ => rfl⟩
theorem Ext.trans (a : Ext n φ F H φ1 F1 H1) (b : Ext m φ1 F1 H1 φ2 F2 H2) (h : n ≤ m) : Ext n φ F H φ2 F2 H2 :=
  ⟨fun x q => b.sub x (a.sub x q), fun x q => (b.same x (a.sub x q)).trans (a.same x q), fun i q => (b.loc i (Nat.lt_of_lt_of_le q h)).trans (a.loc i q)⟩
theorem Now.refl (g : SG τ K φ F H S) : Now τ K S.length φ F H φ F H S := ⟨.refl, g, Nat.le_refl _, fun _ _ _ _ => rfl, fun _ h => h, fun i h1 h2 => absurd h2 (Nat.not_lt.mpr h1), fun _ h => .inl h⟩
theorem RepV.ext {v : V} {x : Vl} (e : Ext n φ F H φ' F' H') (h : n ≤ m) (r : RepV K mg φ F H n v x) : RepV K mg φ' F' H' m v x := by
  cases x with
  | d x => exact Fz.ext e.sub e.same x v r
  | loc i => exact ⟨Nat.lt_of_lt_of_le r.1 h, by rw [e.loc i r.1]; exact r.2⟩
  | glo x => exact r
  | ty T => exact r
  | tys T =>
    obtain ⟨a, h1, h2, h3⟩ := r
    exact ⟨a, h1, e.sub _ h2, (e.same _ h2).trans h3⟩
  | scr xs =>
    obtain ⟨a, h1, h2⟩ := r
    refine ⟨a, h1, h2.imp (fun ⟨h3, o, h4⟩ => ⟨e.sub _ h3, o, (e.same _ h3).trans h4⟩) id⟩
  | xa a => exact r
  | lam p => exact p.ext v e h r
  | glos xs =>
    obtain ⟨a, vs, h1, h2, h3, h4⟩ := r
    exact ⟨a, vs, h1, e.sub a h2, (e.same a h2).trans h3, h4⟩
theorem RepVs.ext (e : Ext n φ F H φ' F' H') (h : n ≤ m) : ∀ {vs : List V} {xs : List Vl}, RepVs K mg φ F H n vs xs → RepVs K mg φ' F' H' m vs xs
  | [], [], _ => trivial
  | _ :: _, _ :: _, r => ⟨r.1.ext e h, RepVs.ext e h r.2⟩
theorem RepVs.len : ∀ {vs : List V} {xs : List Vl}, RepVs K mg φ F H n vs xs → vs.length = xs.length
  | [], [], _ => rfl
  | _ :: _, _ :: _, r => by rw [List.length_cons, List.length_cons, RepVs.len r.2]
theorem Slots.ext {σ : L2.St} {ρ : Env} (e : Ext n φ F H φ' F' H') (h : n ≤ m) (r : Slots K mg φ F H n σ ρ) : Slots K mg φ' F' H' m σ ρ :=
  ⟨r.1, fun i x q => let ⟨v, h1, h2⟩ := r.2 i x q; ⟨v, h1, h2.ext e h⟩⟩
theorem Slots.now {σ : L2.St} {ρ : Env} (e : Now τ K n φ F H φ' F' H' S') (r : Slots K mg φ F H n σ ρ) : Slots K mg φ' F' H' S'.length σ ρ := r.ext e.ext e.le
theorem RepV.now {v : V} {x : Vl} (e : Now τ K n φ F H φ' F' H' S') (r : RepV K mg φ F H n v x) : RepV K mg φ' F' H' S'.length v x := r.ext e.ext e.le
theorem Slots.set {σ : L2.St} {ρ : Env} {i : Nat} {v : V} {x : Vl} (r : Slots K mg φ F H n σ ρ) (q : RepV K mg φ F H n v x) : Slots K mg φ F H n (σ.set i (some v)) (ρ.set i (some x)) := by
  refine ⟨by rw [List.length_set, List.length_set]; exact r.1, fun j y hj => ?_⟩
  by_cases e : i = j
  · subst e
    by_cases hl : i < ρ.length
    · rw [List.getElem?_set_self hl] at hj
      cases hj
      exact ⟨v, by rw [List.getElem?_set_self (by rw [r.1]; exact hl)], q⟩
    · rw [List.getElem?_eq_none (by simpa using hl)] at hj
      cases hj
  · rw [List.getElem?_set_ne e] at hj
    obtain ⟨w, h1, h2⟩ := r.2 j y hj
    exact ⟨w, by rw [List.getElem?_set_ne e]; exact h1, h2⟩
theorem Slots.weak {σ : L2.St} {ρ ρ' : Env} (r : Slots K mg φ F H n σ ρ) (hl : ρ'.length = ρ.length) (h : ∀ (i : Nat) (x : Vl), ρ'[i]? = some (some x) → ρ[i]? = some (some x)) : Slots K mg φ F H n σ ρ' :=
  ⟨r.1.trans hl.symm, fun i x q => r.2 i x (h i x q)⟩
theorem MOk.ext {a : Addr} {o : MO} (hs : ∀ a, F a → F' a) (he : ∀ a, F a → H' a = H a) (hn : o.live = true → ¬ F a → ¬ F' a) (ha : H' a = H a) (h : MOk K F H a o) : MOk K F' H' a o := by
  cases o with
  | lst ds =>
    obtain ⟨h1, xs, h2, h3⟩ := h
    exact ⟨hn rfl h1, xs, ha.trans h2, h3.ext hs he⟩
  | dct es =>
    obtain ⟨h1, xs, h2, h3⟩ := h
    exact ⟨hn rfl h1, xs, ha.trans h2, h3.ext hs he⟩
  | fz x => exact ⟨h.1.ext hs he, by rw [ha]; exact h.2⟩
theorem MOk.there {a : Addr} {o : MO} (h : MOk K F H a o) : H a ≠ none ∧ (o.live = true → ¬ F a) := by
  cases o with
  | lst ds =>
    obtain ⟨h1, xs, h2, h3⟩ := h
    exact ⟨by rw [h2]; simp, fun _ => h1⟩
  | dct es =>
    obtain ⟨h1, xs, h2, h3⟩ := h
    exact ⟨by rw [h2]; simp, fun _ => h1⟩
  | fz x => exact ⟨h.2, fun h => nomatch h⟩
theorem SG.at (g : SG τ K φ F H S) {i : Nat} (h : i < S.length) : H (φ i) ≠ none := (g.obj i _ (List.getElem?_eq_getElem h)).there.1
theorem SG.neAt (g : SG τ K φ F H S) {i : Nat} {p : Addr} (h : i < S.length) (hp : H p = none) : φ i ≠ p := fun e => g.at h (e ▸ hp)
theorem Now.trans (g : SG τ K φ F H S) (a : Now τ K S.length φ F H φ1 F1 H1 S1) (b : Now τ K S1.length φ1 F1 H1 φ2 F2 H2 S') : Now τ K S.length φ F H φ2 F2 H2 S' := by
  have nf : ∀ i x, S.length ≤ i → i < S1.length → H x ≠ none → φ1 i ≠ x := fun i x h1 h2 h3 e => h3 (e ▸ a.new i h1 h2)
  have rest : ∀ x, H x ≠ none → (∀ ps, H x ≠ some (.tbl ps)) → (∀ i, i < S.length → φ i ≠ x) → H2 x = H x := fun x hx ht hn => by
    have e1 := a.rest x hx ht hn
    refine (b.rest x (by rw [e1]; exact hx) (by rw [e1]; exact ht) fun i hi => ?_).trans e1
    by_cases hl : i < S.length
    · rw [a.ext.loc i hl]; exact hn i hl
    · exact nf i x (Nat.not_lt.mp hl) hi hx
  refine ⟨a.ext.trans b.ext a.le, b.sg, Nat.le_trans a.le b.le, rest, fun x hx => b.alive x (a.alive x hx), fun i h1 h2 => ?_, fun x hx => ?_⟩
  rotate_left
  · rcases b.fnew x hx with h | h | ⟨i, hi, e⟩
    · exact a.fnew x h
    · cases q : H x with
      | none => exact .inr (.inl rfl)
      | some o => exact absurd h (a.alive x (by rw [q]; simp))
    · by_cases hl : i < S.length
      · exact .inr (.inr ⟨i, hl, by rw [← a.ext.loc i hl]; exact e⟩)
      · exact .inr (.inl (e ▸ a.new i (Nat.not_lt.mp hl) hi))
  by_cases hl : i < S1.length
  · rw [b.ext.loc i hl]; exact a.new i h1 hl
  · have hn := b.new i (Nat.not_lt.mp hl) h2
    cases q : H (φ2 i) with
    | none => rfl
    | some o => exact absurd hn (a.alive _ (by rw [q]; simp))
theorem tab_ne (t : LamX.Tabs τ H) {q : Addr × Str} (hq : q ∈ τ) : H q.1 ≠ none := by
  obtain ⟨ps, h1, _⟩ := t q hq
  rw [h1]; simp
def Plain0 (o : HO) : Prop := (∀ ps, o ≠ .tbl ps) ∧ ∀ c q, o ≠ LamX.CodeO c q
theorem only_upd {τ : Tb} {p : Addr} {o : HO} (h : ∀ a ps, H a = some (.tbl ps) → ∃ q ∈ τ, q.1 = a) (ho : Plain0 o) : ∀ a ps, upd H p o a = some (.tbl ps) → ∃ q ∈ τ, q.1 = a := fun a ps e => by
  by_cases z : a = p
  · subst z
    rw [upd_same] at e
    exact absurd (Option.some.inj e) (ho.1 ps)
  · rw [upd_ne z] at e
    exact h a ps e
theorem codes_upd {F F' : Addr → Prop} {p : Addr} {o : HO} (h : ∀ a c q, H a = some (LamX.CodeO c q) → F a) (hs : ∀ a, F a → F' a) (ho : Plain0 o) : ∀ a c q, upd H p o a = some (LamX.CodeO c q) → F' a := fun a c q e => by
  by_cases z : a = p
  · subst z
    rw [upd_same] at e
    exact absurd (Option.some.inj e) (ho.2 c q)
  · rw [upd_ne z] at e
    exact hs a (h a c q e)
theorem tabs_new {p : Addr} {o : HO} (t : LamX.Tabs τ H) (hp : H p = none) : LamX.Tabs τ (upd H p o) := t.ext fun b u e => (upd_ne fun eq => by rw [eq, hp] at e; cases e).trans e
theorem plain_lst {xs : List V} : Plain0 (.lst xs) := ⟨fun _ z => (by cases z), fun _ _ z => (by unfold LamX.CodeO at z; cases z)⟩
theorem plain_dK {xs : List (Key × V)} : Plain0 (.dK xs) := ⟨fun _ z => (by cases z), fun _ _ z => (by unfold LamX.CodeO at z; cases z)⟩
theorem tabs_put {p : Addr} {o u : HO} (t : LamX.Tabs τ H) (hp : H p = some u) (pu : Plain0 u) : LamX.Tabs τ (upd H p o) := fun q hq => by
  obtain ⟨ps, h1, h2, h3⟩ := t q hq
  refine ⟨ps, (upd_ne fun e => ?_).trans h1, h2, fun pos cv hc => ?_⟩
  · rw [e, hp] at h1
    exact pu.1 ps (Option.some.inj h1)
  · obtain ⟨c, e1, e2⟩ := h3 pos cv hc
    refine ⟨c, e1, (upd_ne fun e => ?_).trans e2⟩
    rw [e, hp] at e2
    exact pu.2 _ _ (Option.some.inj e2)
theorem alive_upd {p : Addr} {o : HO} : ∀ a, H a ≠ none → upd H p o a ≠ none := fun a h => by
  by_cases e : a = p
  · subst e; rw [upd_same]; simp
  · rw [upd_ne e]; exact h
theorem MOk.plain {a : Addr} {o : MO} (h : MOk K F H a o) (hv : o.live = true) : ∃ u, H a = some u ∧ Plain0 u := by
  cases o with
  | lst ds => obtain ⟨_, xs, h2, _⟩ := h; exact ⟨_, h2, plain_lst⟩
  | dct es => obtain ⟨_, xs, h2, _⟩ := h; exact ⟨_, h2, plain_dK⟩
  | fz x => cases hv
theorem SG.fresh (g : SG τ K φ F H S) {p : Addr} {o : HO} (hp : H p = none) (ho : Plain0 o := by exact ⟨fun _ z => (by cases z), fun _ _ z => (by unfold LamX.CodeO at z; cases z)⟩) : Now τ K S.length φ F H φ (fun a => F a ∨ a = p) (upd H p o) S := by
  have same : ∀ a, F a → upd H p o a = H a := fun a h => upd_ne fun e => g.dom a h (e ▸ hp)
  refine ⟨⟨fun _ h => .inl h, same, fun _ _ => rfl⟩, ⟨fun a h => ?_, fun i o' h => ?_, g.inj, tabs_new g.tab hp, fun q hq z => z.elim (g.ntab q hq) fun e => tab_ne g.tab hq (e ▸ hp), only_upd g.only ho, codes_upd g.codes (fun _ z => .inl z) ho⟩, Nat.le_refl _, fun a ha _ _ => upd_ne fun e => ha (e ▸ hp), alive_upd, fun i h1 h2 => absurd h2 (Nat.not_lt.mpr h1), fun a (h : F a ∨ a = p) => h.imp id fun e => .inl (by rw [e]; exact hp)⟩
  · rcases h with h | h
    · rw [same a h]; exact g.dom a h
    · subst h; rw [upd_same]; simp
  · have hi : i < S.length := (List.getElem?_eq_some_iff.mp h).1
    have hne := g.neAt hi hp
    exact (g.obj i o' h).ext (fun _ h => .inl h) same (fun _ h1 h2 => h2.elim h1 hne) (upd_ne hne)
theorem SG.newLoc (g : SG τ K φ F H S) {p : Addr} {o : HO} {mo : MO} (hp : H p = none) (hm : (¬ F p → (∀ a, F a → upd H p o a = H a) → MOk K F (upd H p o) p mo)) (ho : Plain0 o := by exact ⟨fun _ z => (by cases z), fun _ _ z => (by unfold LamX.CodeO at z; cases z)⟩) :
    Now τ K S.length φ F H (fun i => if i = S.length then p else φ i) F (upd H p o) (S ++ [mo]) := by
  have same : ∀ a, F a → upd H p o a = H a := fun a h => upd_ne fun e => g.dom a h (e ▸ hp)
  have nf : ¬ F p := fun h => g.dom p h hp
  refine ⟨⟨fun _ h => h, same, fun i h => if_neg (Nat.ne_of_lt h)⟩, ⟨fun a h => ?_, fun i o' h => ?_, fun i j hi hj e => ?_, tabs_new g.tab hp, g.ntab, only_upd g.only ho, codes_upd g.codes (fun _ z => z) ho⟩, by simp, fun a ha _ _ => upd_ne fun e => ha (e ▸ hp), alive_upd, fun i h1 h2 => ?_, fun _ h => .inl h⟩
  · rw [same a h]; exact g.dom a h
  · by_cases hi : i = S.length
    · subst hi
      rw [List.getElem?_append_right (Nat.le_refl _), Nat.sub_self] at h
      cases h
      simp only [if_true]
      exact hm nf same
    · have hl : i < S.length := by
        have := (List.getElem?_eq_some_iff.mp h).1
        rw [List.length_append] at this
        simp at this
        omega
      rw [List.getElem?_append_left hl] at h
      simp only [if_neg hi]
      exact (g.obj i o' h).ext (fun _ h => h) same (fun _ h => h) (upd_ne (g.neAt hl hp))
  · simp only [List.length_append, List.length_singleton] at hi hj
    by_cases h1 : i = S.length <;> by_cases h2 : j = S.length
    · omega
    · simp only [h1, h2, if_true, if_false] at e
      exact absurd e.symm (g.neAt (by omega) hp)
    · simp only [h1, h2, if_true, if_false] at e
      exact absurd e (g.neAt (by omega) hp)
    · simp only [h1, h2, if_false] at e
      exact g.inj i j (by omega) (by omega) e
  · have e : i = S.length := by
      rw [List.length_append, List.length_singleton] at h2
      omega
    simp only [if_pos e]
    exact hp
theorem SG.write (g : SG τ K φ F H S) {i : Nat} {o : HO} {mo m0 : MO} (h0 : S[i]? = some m0) (hv : m0.live = true) (hm : ¬ F (φ i) → (∀ a, F a → upd H (φ i) o a = H a) → MOk K F (upd H (φ i) o) (φ i) mo) (ho : Plain0 o := by exact ⟨fun _ z => (by cases z), fun _ _ z => (by unfold LamX.CodeO at z; cases z)⟩) :
    Now τ K S.length φ F H φ F (upd H (φ i) o) (S.set i mo) := by
  have hi : i < S.length := (List.getElem?_eq_some_iff.mp h0).1
  have nf := (g.obj i _ h0).there.2 hv
  have same : ∀ a, F a → upd H (φ i) o a = H a := fun a h => upd_ne fun e => nf (e ▸ h)
  obtain ⟨u0, hu0, pu0⟩ := (g.obj i _ h0).plain hv
  refine ⟨⟨fun _ h => h, same, fun _ _ => rfl⟩, ⟨fun a h => ?_, fun j o' h => ?_, fun j k hj hk e => ?_, tabs_put g.tab hu0 pu0, g.ntab, only_upd g.only ho, codes_upd g.codes (fun _ z => z) ho⟩, by simp, fun a _ _ hn => upd_ne fun e => hn i hi e.symm, alive_upd, fun j h1 h2 => absurd h2 (by rw [List.length_set]; exact Nat.not_lt.mpr h1), fun _ h => .inl h⟩
  · rw [same a h]; exact g.dom a h
  · by_cases hj : i = j
    · subst hj
      rw [List.getElem?_set_self hi] at h
      cases h
      exact hm nf same
    · rw [List.getElem?_set_ne hj] at h
      have hl := (List.getElem?_eq_some_iff.mp h).1
      exact (g.obj j o' h).ext (fun _ h => h) same (fun _ h => h) (upd_ne fun e => hj (g.inj j i hl hi e).symm)
  · rw [List.length_set] at hj hk
    exact g.inj j k hj hk e
theorem SG.freeze (g : SG τ K φ F H S) {i : Nat} {m0 : MO} {x : D} (h0 : S[i]? = some m0) (hv : m0.live = true) (hm : Fz K (fun a => F a ∨ a = φ i) H (.ref (φ i)) x) : Now τ K S.length φ F H φ (fun a => F a ∨ a = φ i) H (S.set i (.fz x)) := by
  have hi : i < S.length := (List.getElem?_eq_some_iff.mp h0).1
  refine ⟨⟨fun _ h => .inl h, fun _ _ => rfl, fun _ _ => rfl⟩, ⟨fun a h => ?_, fun j o' h => ?_, fun j k hj hk e => ?_, g.tab, fun q hq z => z.elim (g.ntab q hq) fun e => ?_, g.only, fun a c q e => .inl (g.codes a c q e)⟩, by simp, fun _ _ _ _ => rfl, fun _ h => h, fun j h1 h2 => absurd h2 (by rw [List.length_set]; exact Nat.not_lt.mpr h1), fun a (h : F a ∨ a = φ i) => h.imp id fun e => .inr ⟨i, hi, e.symm⟩⟩
  · rcases h with h | h
    · exact g.dom a h
    · subst h; exact g.at hi
  · by_cases hj : i = j
    · subst hj
      rw [List.getElem?_set_self hi] at h
      cases h
      exact ⟨hm, g.at hi⟩
    · rw [List.getElem?_set_ne hj] at h
      have hl := (List.getElem?_eq_some_iff.mp h).1
      exact (g.obj j o' h).ext (fun _ h => .inl h) (fun _ _ => rfl) (fun _ h h2 => h2.elim h fun e => hj (g.inj j i hl hi e).symm) rfl
  · rw [List.length_set] at hj hk
    exact g.inj j k hj hk e
  · obtain ⟨u, hu, pu⟩ := (g.obj i _ h0).plain hv
    obtain ⟨ps, h1, _⟩ := g.tab q hq
    rw [e, hu] at h1
    exact pu.1 ps (Option.some.inj h1)
theorem Now.priv {p : Addr} (nw : Now τ K n φ F H φ' F' H' S') (h : H p ≠ none) (nt : ∀ ps, H p ≠ some (.tbl ps)) (nf : ¬ F p) (ns : ∀ i, i < n → φ i ≠ p) : H' p = H p ∧ ¬ F' p ∧ ∀ i, i < S'.length → φ' i ≠ p := by
  refine ⟨nw.rest p h nt ns, fun q => ?_, fun i hi e => ?_⟩
  · rcases nw.fnew p q with z | z | ⟨i, hi, e⟩
    · exact nf z
    · exact h z
    · exact ns i hi e
  · by_cases hl : i < n
    · exact ns i hl (by rw [← nw.ext.loc i hl]; exact e)
    · exact h (e ▸ nw.new i (Nat.not_lt.mp hl) hi)
theorem SG.other {p : Addr} {o : HO} (g : SG τ K φ F H S) (hp : H p = none ∨ ∃ u, H p = some u ∧ Plain0 u) (nf : ¬ F p) (ns : ∀ i, i < S.length → φ i ≠ p) (ho : Plain0 o := by exact ⟨fun _ z => (by cases z), fun _ _ z => (by unfold LamX.CodeO at z; cases z)⟩) : SG τ K φ F (upd H p o) S := by
  have same : ∀ a, F a → upd H p o a = H a := fun a h => upd_ne fun e => nf (e ▸ h)
  refine ⟨fun a h => by rw [same a h]; exact g.dom a h, fun i m hm => ?_, g.inj, hp.elim (tabs_new g.tab) fun ⟨u, hu, pu⟩ => tabs_put g.tab hu pu, g.ntab, only_upd g.only ho, codes_upd g.codes (fun _ z => z) ho⟩
  exact (g.obj i m hm).ext (fun _ h => h) same (fun _ h => h) (upd_ne (ns i (List.getElem?_eq_some_iff.mp hm).1))
theorem Now.other {p : Addr} {o : HO} (nw : Now τ K n φ F H φ' F' H' S') (h : H p = none) (hp : H' p = none ∨ ∃ u, H' p = some u ∧ Plain0 u) (hF : ∀ a, F a → H a ≠ none) (nf : ¬ F' p) (ns : ∀ i, i < S'.length → φ' i ≠ p) (ho : Plain0 o := by exact ⟨fun _ z => (by cases z), fun _ _ z => (by unfold LamX.CodeO at z; cases z)⟩) : Now τ K n φ F H φ' F' (upd H' p o) S' :=
  ⟨⟨nw.ext.sub, fun a ha => (upd_ne fun e => hF a ha (by rw [e]; exact h)).trans (nw.ext.same a ha), nw.ext.loc⟩, nw.sg.other hp nf ns ho, nw.le, fun a ha ht hn => (upd_ne fun e => ha (by rw [e]; exact h)).trans (nw.rest a ha ht hn), fun a ha => alive_upd a (nw.alive a ha), nw.new, nw.fnew⟩
theorem Now.take {p : Addr} (nw : Now τ K n φ F H φ' F' H' S') (h : H p = none) (hp : H' p ≠ none) (hp2 : ∀ ps, H' p ≠ some (.tbl ps)) (ns : ∀ i, i < S'.length → φ' i ≠ p) : Now τ K n φ F H φ' (fun a => F' a ∨ a = p) H' S' :=
  ⟨⟨fun a ha => .inl (nw.ext.sub a ha), nw.ext.same, nw.ext.loc⟩, ⟨fun a ha => ha.elim (nw.sg.dom a) fun e => e ▸ hp, fun i m hm => (nw.sg.obj i m hm).ext (fun _ z => .inl z) (fun _ _ => rfl) (fun _ z q => q.elim z (ns i (List.getElem?_eq_some_iff.mp hm).1)) rfl, nw.sg.inj, nw.sg.tab, fun q hq z => z.elim (nw.sg.ntab q hq) fun e => (let ⟨ps, h1, _⟩ := nw.sg.tab q hq; hp2 ps (e ▸ h1)), nw.sg.only, fun a c q e => .inl (nw.sg.codes a c q e)⟩, nw.le, nw.rest, nw.alive, nw.new,
    fun a ha => ha.elim (nw.fnew a) fun e => .inr (.inl (e ▸ h))⟩
theorem Now.keep {p : Addr} {mo : MO} (nw : Now τ K n φ F H φ' F' H' S') (h : H p = none) (ns : ∀ i, i < S'.length → φ' i ≠ p) (hm : MOk K F' H' p mo) : Now τ K n φ F H (fun i => if i = S'.length then p else φ' i) F' H' (S' ++ [mo]) := by
  refine ⟨⟨nw.ext.sub, nw.ext.same, fun i hi => ?_⟩, ⟨nw.sg.dom, fun i m hi => ?_, fun i j hi hj e => ?_, nw.sg.tab, nw.sg.ntab, nw.sg.only, nw.sg.codes⟩, ?_, nw.rest, nw.alive, fun i h1 h2 => ?_, nw.fnew⟩
  · show (if i = S'.length then p else φ' i) = φ i
    rw [if_neg (Nat.ne_of_lt (Nat.lt_of_lt_of_le hi nw.le))]
    exact nw.ext.loc i hi
  · by_cases he : i = S'.length
    · subst he
      rw [List.getElem?_append_right (Nat.le_refl _), Nat.sub_self] at hi
      cases hi
      simp only [if_true]
      exact hm
    · have hl := (List.getElem?_eq_some_iff.mp hi).1
      rw [List.length_append, List.length_singleton] at hl
      rw [List.getElem?_append_left (by omega)] at hi
      simp only [if_neg he]
      exact nw.sg.obj i m hi
  · rw [List.length_append, List.length_singleton] at hi hj
    by_cases h1 : i = S'.length <;> by_cases h2 : j = S'.length
    · omega
    · simp only [h1, h2, if_true, if_false] at e
      exact absurd e.symm (ns j (by omega))
    · simp only [h1, h2, if_true, if_false] at e
      exact absurd e (ns i (by omega))
    · simp only [h1, h2, if_false] at e
      exact nw.sg.inj i j (by omega) (by omega) e
  · rw [List.length_append]
    exact Nat.le_trans nw.le (Nat.le_add_right _ _)
  · rw [List.length_append, List.length_singleton] at h2
    by_cases he : i = S'.length
    · simp only [if_pos he]; exact h
    · simp only [if_neg he]; exact nw.new i h1 (by omega)
theorem SG.take (g : SG τ K φ F H S) (n : Nat) : SG τ K φ F H (S.take n) :=
  ⟨g.dom, fun i o h => g.obj i o (by
    have hl := (List.getElem?_eq_some_iff.mp h).1
    rw [List.length_take] at hl
    rw [List.getElem?_take_of_lt (by omega)] at h
    exact h), fun i j hi hj e => g.inj i j (by rw [List.length_take] at hi; omega) (by rw [List.length_take] at hj; omega) e, g.tab, g.ntab, g.only, g.codes⟩
theorem PostG.start {α β : Type} {R : (Nat → Addr) → (Addr → Prop) → Hp → Nat → β → α → Prop} {W : XW} {Q : β → Hp → Prop} {r : Res α} (g : SG τ K φ F H S) (e : Now τ K S.length φ F H φ1 F1 H1 S1) (p : PostG τ K mg R W S.length φ F H Q r) : PostG τ K mg R W S1.length φ1 F1 H1 Q r := by
  cases r with
  | ok v S' => exact fun φ' F' H' nw x rx => p φ' F' H' (Now.trans g e nw) x rx
  | ex x S' => exact fun φ' F' H' nw c od rx => p φ' F' H' (Now.trans g e nw) c od rx
  | bad => exact p
theorem PostG.bind {α β α' β' : Type} {R : (Nat → Addr) → (Addr → Prop) → Hp → Nat → β → α → Prop} {R' : (Nat → Addr) → (Addr → Prop) → Hp → Nat → β' → α' → Prop} {W : XW} {Q : β → Hp → Prop} {Q' : β' → Hp → Prop} {r : Res α'} {k : α' → Store → Res α}
    (g : SG τ K φ F H S) (p : PostG τ K mg R W S.length φ F H Q (r.bind k)) (h : ∀ φ1 F1 H1 S1 v x, Now τ K S.length φ F H φ1 F1 H1 S1 → R' φ1 F1 H1 S1.length x v → PostG τ K mg R W S1.length φ1 F1 H1 Q (k v S1) → Q' x H1) : PostG τ K mg R' W S.length φ F H Q' r := by
  cases r with
  | ok v S' => exact fun φ' F' H' nw x rx => h _ _ _ _ _ _ nw rx (PostG.start g nw p)
  | ex x S' => exact p
  | bad => exact p
theorem PostG.mono {α β : Type} {R : (Nat → Addr) → (Addr → Prop) → Hp → Nat → β → α → Prop} {W : XW} {Q Q' : β → Hp → Prop} {r : Res α} (p : PostG τ K mg R W n φ F H Q r) (h : ∀ x H', Q x H' → Q' x H') : PostG τ K mg R W n φ F H Q' r := by
  cases r with
  | ok v S' => exact fun φ' F' H' nw x rx => h _ _ (p φ' F' H' nw x rx)
  | ex x S' => exact p
  | bad => exact p
theorem PostS.start {W : WX} {E : Ends} {r : SRes} (g : SG τ K φ F H S) (e : Now τ K S.length φ F H φ1 F1 H1 S1) (p : PostS τ K mg W S.length φ F H E r) : PostS τ K mg W S1.length φ1 F1 H1 E r := by
  cases r with
  | nx ρ S' => exact fun φ' F' H' nw x rx => p φ' F' H' (Now.trans g e nw) x rx
  | bk ρ S' => exact fun φ' F' H' nw x rx => p φ' F' H' (Now.trans g e nw) x rx
  | ct ρ S' => exact fun φ' F' H' nw x rx => p φ' F' H' (Now.trans g e nw) x rx
  | ret v S' => exact fun φ' F' H' nw x rx => p φ' F' H' (Now.trans g e nw) x rx
  | ex x ρ S' => exact fun φ' F' H' nw c od rx => p φ' F' H' (Now.trans g e nw) c od rx
  | bad => exact p
theorem Post.ok {W : XW} {Q : VK} {v : Vl} {x : V} (g : SG τ K φ F H S) (p : Post τ K mg W S.length φ F H Q (.ok v S)) (r : RepV K mg φ F H S.length x v) : Q x H := p φ F H (.refl g) x r
theorem PostT.ok {W : XW} {Q : Bool → Hp → Prop} {b : Bool} (g : SG τ K φ F H S) (p : PostT τ K mg W S.length φ F H Q (.ok b S)) : Q b H := p φ F H (.refl g) b rfl
theorem Post.newT {W : XW} {Q : VK} {xs : List V} {ds : List D} (g : SG τ K φ F H S) (r : FzAll K F H xs ds) (p : Post τ K mg W S.length φ F H Q (.ok (.d (.tuple ds)) S)) : ∀ a, H a = none → Q (.ref a) (upd H a (.tup xs)) := fun a ha => by
  have nw := g.fresh (o := .tup xs) ha
  exact p _ _ _ nw _ (.tup (.inl ⟨.inr rfl, upd_same⟩) (r.ext nw.ext.sub nw.ext.same))
end
def mkL (m : Bool) (ds : List D) (S : Store) : Res Vl := if m then .ok (.loc S.length) (S ++ [.lst ds]) else .ok (.d (.list ds)) S
def mkK (m : Bool) (es : List (D × D)) (S : Store) : Res Vl := if m then .ok (.loc S.length) (S ++ [.dct es]) else .ok (.d (.dict es)) S
section
variable {K : PySem.W.Frag} {mg : Str → Option Value} {φ φ' φ1 φ2 : Nat → Addr} {F F' F1 F2 : Addr → Prop} {H H' H1 H2 : Hp} {n n' m : Nat} {S S' S1 : Store}
theorem Post.newL {W : XW} {Q : VK} {m : Bool} {xs : List V} {ds : List D} (g : SG τ K φ F H S) (r : FzAll K F H xs ds) (p : Post τ K mg W S.length φ F H Q (mkL m ds S)) : ∀ a, H a = none → Q (.ref a) (upd H a (.lst xs)) := fun a ha => by
  cases m with
  | true =>
    have nw := g.newLoc (o := .lst xs) (mo := .lst ds) ha fun nf same => ⟨nf, xs, upd_same, r.ext (fun _ h => h) same⟩
    exact p _ _ _ nw _ ⟨by simp, by simp⟩
  | false =>
    have nw := g.fresh (o := .lst xs) ha
    exact p _ _ _ nw _ (.lst (.inr rfl) upd_same (r.ext nw.ext.sub nw.ext.same))
theorem Post.newK {W : XW} {Q : VK} {m : Bool} {xs : List (Key × V)} {ds : List (D × D)} (g : SG τ K φ F H S) (r : FzKv K F H xs ds) (p : Post τ K mg W S.length φ F H Q (mkK m ds S)) : ∀ a, H a = none → Q (.ref a) (upd H a (.dK xs)) := fun a ha => by
  cases m with
  | true =>
    have nw := g.newLoc (o := .dK xs) (mo := .dct ds) ha fun nf same => ⟨nf, xs, upd_same, r.ext (fun _ h => h) same⟩
    exact p _ _ _ nw _ ⟨by simp, by simp⟩
  | false =>
    have nw := g.fresh (o := .dK xs) ha
    exact p _ _ _ nw _ (.dct (.inr rfl) upd_same (r.ext nw.ext.sub nw.ext.same))
end
structure Cc (X : Cx) (W : WX) (k : Nat) : Prop where
  calm : X.calm = true
  nd : X.N.Nodup
  tk : Takes X W
  rm : Room k X.A
  po : PassesOwn (model X.prog X.w) X.A X.env X.xe
  gd : X.A.guards = some []
abbrev W0 : WX := fun _ _ _ _ => False
theorem Cc.blk {X : Cx} {W : WX} {k : Nat} (c : Cc X W k) {s : Shared} {H : Hp} {scope : Scope} {cenv : PySem.Env} {fp : List Addr} : Cc (X.blk s H scope cenv fp) W0 k := ⟨c.calm, c.nd, takes0, c.rm, PassesOwn.never, c.gd⟩
def view (S : Store) : Vl → Option D
  | .d x => some x
  | .loc i => match S[i]? with
    | some (.lst ds) => some (.list ds)
    | some (.dct es) => some (.dict es)
    | some (.fz x) => some x
    | none => none
  | _ => none
@[simp] theorem view_d (S : Store) (x : D) : view S (.d x) = some x := rfl
def fr (v : Vl) (S : Store) : Res D := match v with
  | .d x => .ok x S
  | .loc i => match S[i]? with
    | some (.lst ds) => .ok (.list ds) (S.set i (.fz (.list ds)))
    | some (.dct es) => .ok (.dict es) (S.set i (.fz (.dict es)))
    | some (.fz x) => .ok x S
    | none => .bad
  | _ => .bad
@[simp] theorem fr_d (S : Store) (x : D) : fr (.d x) S = .ok x S := rfl
def frs : List Vl → Store → Res (List D)
  | [], S => .ok [] S
  | v :: vs, S => (fr v S).bind fun x S1 => (frs vs S1).bind fun xs S2 => .ok (x :: xs) S2
@[simp] theorem frs_nil (S : Store) : frs [] S = .ok [] S := rfl
@[simp] theorem frs_d (x : D) (vs : List Vl) (S : Store) : frs (.d x :: vs) S = (frs vs S).bind fun xs S2 => .ok (x :: xs) S2 := rfl
def Ob (K : PySem.W.Frag) (F : Addr → Prop) (H : Hp) (x : V) : D → Prop
  | .none => x = .non
  | .bool b => x = .bl b
  | .int i => x = .int i
  | .str z => x = .str z
  | .list ds => ∃ a xs, x = .ref a ∧ H a = some (.lst xs) ∧ FzAll K F H xs ds
  | .tuple ds => ∃ a xs, x = .ref a ∧ FqT K F H a xs ∧ FzAll K F H xs ds
  | .dict es => ∃ a kvs, x = .ref a ∧ H a = some (.dK kvs) ∧ FzKv K F H kvs es
section
variable {K : PySem.W.Frag} {mg : Str → Option Value} {φ φ' φ1 φ2 : Nat → Addr} {F F' F1 F2 : Addr → Prop} {H H' H1 H2 : Hp} {n n' m : Nat} {S S' S1 : Store}
theorem Fz.ob {x : V} {d : D} (h : Fz K F H x d) : Ob K F H x d := by
  cases h with
  | non => rfl
  | bl b => rfl
  | int i => rfl
  | str z => rfl
  | lst h1 h2 h3 => exact ⟨_, _, rfl, h2, h3⟩
  | tup h1 h2 => exact ⟨_, _, rfl, h1, h2⟩
  | dct h1 h2 h3 => exact ⟨_, _, rfl, h2, h3⟩
theorem ob_of {x : V} {v : Vl} {d : D} (g : SG τ K φ F H S) (r : RepV K mg φ F H n x v) (e : view S v = some d) : Ob K F H x d := by
  cases v with
  | d y => cases e; exact Fz.ob r
  | loc i =>
    obtain ⟨_, rfl⟩ := r
    cases q : S[i]? with
    | none => simp only [view, q] at e; cases e
    | some mo =>
      simp only [view, q] at e
      have o := g.obj i _ q
      cases mo with
      | lst ds =>
        cases e
        obtain ⟨_, xs, h1, h2⟩ := o
        exact ⟨_, _, rfl, h1, h2⟩
      | dct ds =>
        cases e
        obtain ⟨_, xs, h1, h2⟩ := o
        exact ⟨_, _, rfl, h1, h2⟩
      | fz y =>
        cases e
        exact o.1.ob
  | glo y => cases e
  | ty y => cases e
  | tys y => cases e
  | scr y => cases e
  | xa y => cases e
  | lam y => cases e
  | glos y => cases e
theorem FzKv.len : ∀ {vs : List (Key × V)} {ds : List (D × D)}, FzKv K F H vs ds → vs.length = ds.length
  | _, _, .nil => rfl
  | _, _, .cons _ h => by rw [List.length_cons, List.length_cons, FzKv.len h]
theorem fr_ok {x : V} {v : Vl} (g : SG τ K φ F H S) (r : RepV K mg φ F H S.length x v) (p : fr v S ≠ .bad) :
    ∃ φ' F' S' d, Now τ K S.length φ F H φ' F' H S' ∧ Fz K F' H x d ∧ fr v S = .ok d S' := by
  cases v with
  | d y => exact ⟨φ, F, S, y, .refl g, r, rfl⟩
  | loc i =>
    obtain ⟨hi, rfl⟩ := r
    cases q : S[i]? with
    | none => exact absurd hi (by simpa using q)
    | some mo =>
      cases mo with
      | lst ds =>
        obtain ⟨h0, xs, h1, h2⟩ := g.obj i _ q
        have f := Fz.lst (K := K) (F := fun a => F a ∨ a = φ i) (H := H) (.inr rfl) h1 (h2.ext (fun _ h => .inl h) fun _ _ => rfl)
        exact ⟨φ, _, _, .list ds, g.freeze q rfl f, f, by simp only [fr, q]⟩
      | dct ds =>
        obtain ⟨h0, xs, h1, h2⟩ := g.obj i _ q
        have f := Fz.dct (K := K) (F := fun a => F a ∨ a = φ i) (H := H) (.inr rfl) h1 (h2.ext (fun _ h => .inl h) fun _ _ => rfl)
        exact ⟨φ, _, _, .dict ds, g.freeze q rfl f, f, by simp only [fr, q]⟩
      | fz y => exact ⟨φ, F, S, y, .refl g, (g.obj i _ q).1, by simp only [fr, q]⟩
  | glo y => exact (p rfl).elim
  | ty y => exact (p rfl).elim
  | tys y => exact (p rfl).elim
  | scr y => exact (p rfl).elim
  | xa y => exact (p rfl).elim
  | lam y => exact (p rfl).elim
  | glos y => exact (p rfl).elim
theorem PostG.ok_of {α β : Type} {R : (Nat → Addr) → (Addr → Prop) → Hp → Nat → β → α → Prop} {W : XW} {Q : β → Hp → Prop} {r : Res α} {v : α} {x : β} (p : PostG τ K mg R W n φ F H Q r) (e : r = .ok v S') (nw : Now τ K n φ F H φ' F' H' S') (q : R φ' F' H' S'.length x v) : Q x H' := by
  subst e
  exact p _ _ _ nw _ q
theorem frs_ok {α β : Type} {R : (Nat → Addr) → (Addr → Prop) → Hp → Nat → β → α → Prop} {W : XW} {Q : β → Hp → Prop} : ∀ {xs : List V} {vs : List Vl} {φ : Nat → Addr} {F : Addr → Prop} {S : Store} {n0 : Nat} {φ0 : Nat → Addr} {F0 : Addr → Prop} {H0 : Hp} {k : List D → Store → Res α},
    SG τ K φ F H S → RepVs K mg φ F H S.length xs vs → PostG τ K mg R W n0 φ0 F0 H0 Q ((frs vs S).bind k) → ∃ φ' F' S' ds, Now τ K S.length φ F H φ' F' H S' ∧ FzAll K F' H xs ds ∧ PostG τ K mg R W n0 φ0 F0 H0 Q (k ds S')
  | [], [], φ, F, S, _, _, _, _, k, g, _, p => ⟨φ, F, S, [], .refl g, .nil, p⟩
  | x :: xs, v :: vs, φ, F, S, n0, φ0, F0, H0, k, g, r, p => by
    have e0 : frs (v :: vs) S = (fr v S).bind fun x S1 => (frs vs S1).bind fun xs S2 => .ok (x :: xs) S2 := rfl
    rw [e0] at p
    have hne : fr v S ≠ .bad := fun e => by rw [e] at p; exact p
    obtain ⟨φ1, F1, S1, d, nw1, f1, e1⟩ := fr_ok g r.1 hne
    rw [e1] at p
    have r1 : RepVs K mg φ1 F1 H S1.length xs vs := r.2.ext nw1.ext nw1.le
    have p1 : PostG τ K mg R W n0 φ0 F0 H0 Q ((frs vs S1).bind fun ds S' => k (d :: ds) S') := by
      have : ((Res.ok d S1).bind fun x S1 => (frs vs S1).bind fun xs S2 => Res.ok (x :: xs) S2).bind k = (frs vs S1).bind fun ds S' => k (d :: ds) S' := by
        show ((frs vs S1).bind fun xs S2 => Res.ok (d :: xs) S2).bind k = _
        cases frs vs S1 <;> rfl
      rw [← this]
      exact p
    obtain ⟨φ2, F2, S2, ds, nw2, f2, p2⟩ := frs_ok (k := fun ds S' => k (d :: ds) S') nw1.sg r1 p1
    exact ⟨φ2, F2, S2, d :: ds, Now.trans g nw1 nw2, .cons (f1.ext nw2.ext.sub nw2.ext.same) f2, p2⟩
  | [], _ :: _, _, _, _, _, _, _, _, _, _, r, _ => r.elim
  | _ :: _, [], _, _, _, _, _, _, _, _, _, r, _ => r.elim
end
def eVar (i : Nat) : Ev := fun ρ S => match ρ[i]? with
  | some (some v) => .ok v S
  | _ => .bad
def eD (x : D) : Ev := fun _ S => .ok (.d x) S
def eGlo (x : Str) : Ev := fun _ S => .ok (.glo x) S
def eTy (T : Ty) : Ev := fun _ S => .ok (.ty T) S
def eBin (o : Vl → Vl → Store → Res Vl) (fa fb : Ev) : Ev := fun ρ S => (fa ρ S).bind fun a S1 => (fb ρ S1).bind fun b S2 => o a b S2
def eUn (o : Vl → Store → Res Vl) (fa : Ev) : Ev := fun ρ S => (fa ρ S).bind fun a S1 => o a S1
def aNil : Av := fun _ S => .ok [] S
def aCons (fe : Ev) (fr : Av) : Av := fun ρ S => (fe ρ S).bind fun v S1 => (fr ρ S1).bind fun vs S2 => .ok (v :: vs) S2
def eFrz (f : Ev) : Ev := fun ρ S => (f ρ S).bind fun v S1 => (fr v S1).bind fun d S2 => .ok (.d d) S2
def eTup (f : Av) : Ev := fun ρ S => (f ρ S).bind fun vs S1 => (frs vs S1).bind fun ds S2 => if ds.length ≤ 1000 then .ok (.d (.tuple ds)) S2 else .bad
def eLst (m : Bool) (f : Av) : Ev := fun ρ S => (f ρ S).bind fun vs S1 => (frs vs S1).bind fun ds S2 => if ds.length ≤ 1000 then mkL m ds S2 else .bad
def eCall (g : Fn) (f : Av) : Ev := fun ρ S => (f ρ S).bind fun vs S1 => g vs S1
def eCallN (n : Nat) (g : Fn) (f : Av) : Ev := fun ρ S => (f ρ S).bind fun vs S1 => if vs.length = n then g vs S1 else .bad
def spN (τ : Tb) (K : PySem.W.Frag) (mg : Str → Option Value) (n : Nat) (g : Fn) : Sp := fun vs H Q E => vs.length = n ∧ spF τ K mg g vs H Q E
def eIf (c : Tv) (fa fb : Ev) : Ev := fun ρ S => (c ρ S).bind fun b S1 => if b = true then fa ρ S1 else fb ρ S1
def eAnd (fa fb : Ev) : Ev := fun ρ S => (fa ρ S).bind fun v S1 => match v with
  | .d (.bool c) => if c = true then fb ρ S1 else .ok (.d (.bool false)) S1
  | _ => .bad
def eOr (fa fb : Ev) : Ev := fun ρ S => (fa ρ S).bind fun v S1 => match v with
  | .d (.bool c) => if c = true then .ok (.d (.bool true)) S1 else fb ρ S1
  | _ => .bad
def eNot (fa : Ev) : Ev := fun ρ S => (fa ρ S).bind fun v S1 => match v with
  | .d (.bool c) => .ok (.d (.bool !c)) S1
  | _ => .bad
def tOf (f : Ev) : Tv := fun ρ S => (f ρ S).bind fun v S1 => match v with
  | .d (.bool c) => .ok c S1
  | _ => .bad
def tAnd (a b : Tv) : Tv := fun ρ S => (a ρ S).bind fun c S1 => if c = true then b ρ S1 else .ok false S1
def tOr (a b : Tv) : Tv := fun ρ S => (a ρ S).bind fun c S1 => if c = true then .ok true S1 else b ρ S1
def tNot (a : Tv) : Tv := fun ρ S => (a ρ S).bind fun c S1 => .ok (!c) S1
def eChain (o o' : Vl → Vl → Store → Res Vl) (fa fb fc : Ev) : Ev := fun ρ S => (fa ρ S).bind fun a S1 => (fb ρ S1).bind fun b S2 => (o a b S2).bind fun z S3 => match z with
  | .d (.bool k) => if k = true then (fc ρ S3).bind fun c S4 => o' b c S4 else .ok (.d (.bool false)) S3
  | _ => .bad
section
variable {X : Cx} {W : WX} {k : Nat} {a b c e : Expr} {es rest : List Expr} {fa fb fc : Ev} {ga gb : Tv} {fs : Av} {pos : Pos}
theorem de_var (i : Nat) {x : Str} (hN : X.N[i]? = some x := by rfl) (hv : Vis X.env.scope x := by first | exact Or.inl rfl | exact Or.inr (Or.inl rfl) | exact Or.inr (Or.inr rfl)) (hd : (x == ("__debug__" : Str)) = false := by decide)
    (hcd : (x == ("__classdict__" : Str)) = false := by decide) : DE τ X W (.Name x pos) (eVar i) := ⟨PE.mono (pe_var hN hv hd hcd) fun σ H Q ⟨φ, F, ρ, S, g, sl, p⟩ => by
  unfold eVar at p
  cases q : ρ[i]? with
  | none => rw [q] at p; exact p.elim
  | some o =>
    cases o with
    | none => rw [q] at p; exact p.elim
    | some v =>
      rw [q] at p
      obtain ⟨x, h1, h2⟩ := sl.2 i v q
      exact ⟨x, h1, Post.ok g p h2⟩⟩
theorem de_c {v : V} {d : D} (h : PE X e (tC v)) (r : ∀ F H, Fz X.K F H v d) : DE τ X W e (eD d) := ⟨PE.mono h fun σ H Q ⟨φ, F, ρ, S, g, sl, p⟩ => Post.ok g p (r F H)⟩
theorem de_int {i : Int} {j : Nat} : DE τ X W (.Constant (.int i) j pos) (eD (.int i)) := de_c pe_int fun _ _ => .int i
theorem de_bl {i : Bool} {j : Nat} : DE τ X W (.Constant (.bool i) j pos) (eD (.bool i)) := de_c pe_bl fun _ _ => .bl i
theorem de_non {j : Nat} : DE τ X W (.Constant .none j pos) (eD .none) := de_c pe_non fun _ _ => .non
theorem de_str {i : Str} {j : Nat} : DE τ X W (.Constant (.str i) j pos) (eD (.str i)) := de_c pe_str fun _ _ => .str i
theorem de_con {x : Str} {v : V} {d : D} {u : Value} (hg : Gl X x) (hm : X.mg x = some u) (r : RelV v u) (f : ∀ F H, Fz X.K F H v d) (hd : (x == ("__debug__" : Str)) = false := by decide) : DE τ X W (.Name x pos) (eD d) := de_c (pe_glob hg hm r hd) f
theorem de_ty {x : Str} {T : Ty} (hg : Gl X x) (hm : X.mg x = none) (hv : bootBuiltins x = some (.type T.name)) (hn : x ≠ "__name__" := by decide) (hd : (x == ("__debug__" : Str)) = false := by decide) : DE τ X W (.Name x pos) (eTy T) :=
  ⟨PE.mono (pe_bltn (v := .ty T.name) hg hm hv rfl hn hd) fun σ H Q ⟨φ, F, ρ, S, g, sl, p⟩ => Post.ok g p rfl⟩
theorem de_glo {x : Str} {v : V} {u : Value} (hg : Gl X x) (hm : X.mg x = some u) (r : RelV v u) (hd : (x == ("__debug__" : Str)) = false := by decide) : DE τ X W (.Name x pos) (eGlo x) :=
  ⟨PE.mono (pe_glob hg hm r hd) fun σ H Q ⟨φ, F, ρ, S, g, sl, p⟩ => Post.ok g p ⟨u, hm, r⟩⟩
def OpOk (τ : Tb) (K : PySem.W.Frag) (mg : Str → Option Value) (r : R2) (o : Vl → Vl → Store → Res Vl) : Prop :=
  ∀ {φ : Nat → Addr} {F : Addr → Prop} {H : Hp} {S : Store} {x y : V} {v u : Vl} {Q : VK} {W : XW}, SG τ K φ F H S → RepV K mg φ F H S.length x v → RepV K mg φ F H S.length y u → Post τ K mg W S.length φ F H Q (o v u S) → r x y H Q
def UnOk (τ : Tb) (K : PySem.W.Frag) (mg : Str → Option Value) (r : V → Hp → VK → Prop) (o : Vl → Store → Res Vl) : Prop :=
  ∀ {φ : Nat → Addr} {F : Addr → Prop} {H : Hp} {S : Store} {x : V} {v : Vl} {Q : VK} {W : XW}, SG τ K φ F H S → RepV K mg φ F H S.length x v → Post τ K mg W S.length φ F H Q (o v S) → r x H Q
def CallOk (τ : Tb) (K : PySem.W.Frag) (mg : Str → Option Value) (r : List V → Hp → VK → Prop) (o : Fn) : Prop :=
  ∀ {φ : Nat → Addr} {F : Addr → Prop} {H : Hp} {S : Store} {x : List V} {v : List Vl} {Q : VK} {W : XW}, SG τ K φ F H S → RepVs K mg φ F H S.length x v → Post τ K mg W S.length φ F H Q (o v S) → r x H Q
theorem OpOk.or {K : PySem.W.Frag} {mg : Str → Option Value} {r r' : R2} {o : Vl → Vl → Store → Res Vl} (h : ∀ {φ : Nat → Addr} {F : Addr → Prop} {H : Hp} {S : Store} {x y : V} {v u : Vl} {Q : VK} {W : XW}, SG τ K φ F H S → RepV K mg φ F H S.length x v → RepV K mg φ F H S.length y u → Post τ K mg W S.length φ F H Q (o v u S) → r x y H Q ∨ r' x y H Q) :
    OpOk τ K mg (fun x y H Q => r x y H Q ∨ r' x y H Q) o := h
theorem re2 {o : Vl → Vl → Store → Res Vl} {r : R2} (ok : OpOk τ X.K X.mg r o) {σ : L2.St} {H : Hp} {Q : VK} (h : RE τ X.K X.mg W (eBin o fa fb) σ H Q) : RE τ X.K X.mg W fa σ H fun x H1 => RE τ X.K X.mg W fb σ H1 fun y H2 => r x y H2 Q := by
  obtain ⟨φ, F, ρ, S, g, sl, p⟩ := h
  refine ⟨φ, F, ρ, S, g, sl, PostG.bind g p fun φ1 F1 H1 S1 v x nw1 r1 p1 => ⟨φ1, F1, ρ, S1, nw1.sg, sl.now nw1, PostG.bind nw1.sg p1 fun φ2 F2 H2 S2 u y nw2 r2 p2 => ?_⟩⟩
  exact ok nw2.sg (r1.now nw2) r2 p2
theorem de_bin {op : Operator} {o : Vl → Vl → Store → Res Vl} {r : R2} (ho : OpR X (binaryOp op) r) (ok : OpOk τ X.K X.mg r o) (ha : DE τ X W a fa) (hb : DE τ X W b fb) : DE τ X W (.BinOp a op b pos) (eBin o fa fb) := ⟨PE.mono (pe_op ho ha.r hb.r) fun _ _ _ h => re2 ok h⟩
theorem de_cmp {op : CmpOp} {o : Vl → Vl → Store → Res Vl} {r : R2} (ho : OpR X (compareOp op) r) (ok : OpOk τ X.K X.mg r o) (ha : DE τ X W a fa) (hb : DE τ X W b fb) (hm : behindInMarks op b = false) : DE τ X W (.Compare a [op] [b] pos) (eBin o fa fb) := ⟨PE.mono (pe_cmpR ho ha.r hb.r hm) fun _ _ _ h => re2 ok h⟩
theorem tof {f : Ev} {t : TE} {σ : L2.St} {H : Hp} {Q : Bool → Hp → Prop} (h : RT τ X.K X.mg W (tOf f) σ H Q) (m : ∀ Q, RE τ X.K X.mg W f σ H Q → t σ H Q) : t σ H fun x H' => ∃ k, x = .bl k ∧ Q k H' := by
  obtain ⟨φ, F, ρ, S, g, sl, p⟩ := h
  refine m _ ⟨φ, F, ρ, S, g, sl, PostG.bind g p fun φ1 F1 H1 S1 v x nw1 r1 p1 => ?_⟩
  cases v with
  | d y =>
    cases y with
    | bool b => cases r1; exact ⟨b, rfl, PostT.ok nw1.sg p1⟩
    | _ => exact p1.elim
  | _ => exact p1.elim
theorem dt_cmp {op : CmpOp} {o : Vl → Vl → Store → Res Vl} {r : R2} (ho : OpR X (compareOp op) r) (ok : OpOk τ X.K X.mg r o) (ha : DE τ X W a fa) (hb : DE τ X W b fb) (hm : behindInMarks op b = false) : DT τ X W (.Compare a [op] [b] pos) (tOf (eBin o fa fb)) := ⟨PT.mono (pt_cmpR ho ha.r hb.r hm) fun _ _ _ h => tof h fun _ h => re2 ok h⟩
theorem dt_val {f : Ev} (h : DE τ X W e f) (he : ∀ whole, isTrue e X.env whole = (do let v ← whole; standAt e.pos; holding [v] (truthy v)) := by intro _; rfl) : DT τ X W e (tOf f) := ⟨PT.mono (pt_val h.r he) fun _ _ _ q => tof q fun _ h => h⟩
theorem rechain {o o' : Vl → Vl → Store → Res Vl} {r r' : R2} (ok : OpOk τ X.K X.mg r o) (ok' : OpOk τ X.K X.mg r' o') {σ : L2.St} {H : Hp} {Q : VK} (h : RE τ X.K X.mg W (eChain o o' fa fb fc) σ H Q) : tChain r r' (RE τ X.K X.mg W fa) (RE τ X.K X.mg W fb) (RE τ X.K X.mg W fc) σ H Q := by
  obtain ⟨φ, F, ρ, S, g, sl, p⟩ := h
  refine ⟨φ, F, ρ, S, g, sl, PostG.bind g p fun φ1 F1 H1 S1 v x nw1 r1 p1 => ⟨φ1, F1, ρ, S1, nw1.sg, sl.now nw1, PostG.bind nw1.sg p1 fun φ2 F2 H2 S2 u y nw2 r2 p2 => ?_⟩⟩
  refine ok nw2.sg (r1.now nw2) r2 (PostG.bind (R' := RepV X.K X.mg) nw2.sg p2 fun φ3 F3 H3 S3 z zv nw3 r3 p3 => ?_)
  cases z with
  | d zd =>
    cases zd with
    | bool kb =>
      cases r3
      refine ⟨kb, rfl, ?_⟩
      cases kb with
      | true =>
        simp only [if_true] at p3 ⊢
        exact ⟨φ3, F3, ρ, S3, nw3.sg, ((sl.now nw1).now nw2).now nw3, PostG.bind nw3.sg p3 fun φ4 F4 H4 S4 w q nw4 r4 p4 => ok' nw4.sg ((r2.now nw3).now nw4) r4 p4⟩
      | false => exact Post.ok nw3.sg p3 (.bl false)
    | _ => exact p3.elim
  | _ => exact p3.elim
theorem de_chain {op op' : CmpOp} {o o' : Vl → Vl → Store → Res Vl} {r r' : R2} (ho : OpR X (compareOp op) r) (ok : OpOk τ X.K X.mg r o) (ho' : OpR X (compareOp op') r') (ok' : OpOk τ X.K X.mg r' o') (ha : DE τ X W a fa) (hb : DE τ X W b fb) (hc : DE τ X W c fc)
    (hm : lastMarks [op, op'] [b, c] = false := by rfl) : DE τ X W (.Compare a [op, op'] [b, c] pos) (eChain o o' fa fb fc) := ⟨PE.mono (pe_chain ho ho' ha.r hb.r hc.r hm) fun _ _ _ h => rechain ok ok' h⟩
theorem dt_chain {op op' : CmpOp} {o o' : Vl → Vl → Store → Res Vl} {r r' : R2} (ho : OpR X (compareOp op) r) (ok : OpOk τ X.K X.mg r o) (ho' : OpR X (compareOp op') r') (ok' : OpOk τ X.K X.mg r' o') (ha : DE τ X W a fa) (hb : DE τ X W b fb) (hc : DE τ X W c fc)
    (hm : lastMarks [op, op'] [b, c] = false := by rfl) : DT τ X W (.Compare a [op, op'] [b, c] pos) (tOf (eChain o o' fa fb fc)) := ⟨PT.mono (pt_chain ho ho' ha.r hb.r hc.r hm) fun _ _ _ h => tof h fun _ h => rechain ok ok' h⟩
theorem de_un {op : UnaryOp} {o : Vl → Store → Res Vl} {r : V → Hp → VK → Prop} (ho : UnR X (unaryOp op) r) (ok : UnOk τ X.K X.mg r o) (ha : DE τ X W a fa) : DE τ X W (.UnaryOp op a pos) (eUn o fa) := ⟨PE.mono (pe_un ho ha.r) fun σ H Q ⟨φ, F, ρ, S, g, sl, p⟩ =>
  ⟨φ, F, ρ, S, g, sl, PostG.bind g p fun φ1 F1 H1 S1 v x nw1 r1 p1 => ok nw1.sg r1 p1⟩⟩
theorem da_nil : DA τ X W [] aNil := ⟨PA.mono pa_nil fun σ H Q ⟨φ, F, ρ, S, g, sl, p⟩ => p _ _ _ (.refl g) [] trivial⟩
theorem da_cons {fe : Ev} {fr : Av} (ha : DE τ X W e fe) (hr : DA τ X W es fr) (hs : starEach (e :: es) X.env = (false, eval e X.env) :: starEach es X.env := by rfl) : DA τ X W (e :: es) (aCons fe fr) := ⟨PA.mono (pa_cons ha.r hr.r hs) fun σ H Q ⟨φ, F, ρ, S, g, sl, p⟩ =>
  ⟨φ, F, ρ, S, g, sl, PostG.bind g p fun φ1 F1 H1 S1 v x nw1 r1 p1 => ⟨φ1, F1, ρ, S1, nw1.sg, sl.now nw1, PostG.bind nw1.sg p1 fun φ2 F2 H2 S2 vs xs nw2 r2 p2 => p2 _ _ _ (.refl nw2.sg) _ ⟨r1.now nw2, r2⟩⟩⟩⟩
theorem de_frz {f : Ev} (h : DE τ X W e f) : DE τ X W e (eFrz f) := ⟨PE.mono h.r fun σ H Q ⟨φ, F, ρ, S, g, sl, p⟩ => ⟨φ, F, ρ, S, g, sl, PostG.bind g p fun φ1 F1 H1 S1 v x nw1 r1 p1 => by
  have hne : fr v S1 ≠ .bad := fun e => by rw [e] at p1; exact p1
  obtain ⟨φ2, F2, S2, d, nw2, f2, e2⟩ := fr_ok nw1.sg r1 hne
  rw [e2] at p1
  exact p1 _ _ _ nw2 _ f2⟩⟩
theorem line1000 {n : Nat} (h : n ≤ 1000) : n ≤ sizeLine := Nat.le_trans h (by decide)
theorem de_tup {x1} (h : DA τ X W es fs) : DE τ X W (.Tuple es x1 pos) (eTup fs) := ⟨PE.mono (pe_tup h.r) fun σ H Q ⟨φ, F, ρ, S, g, sl, p⟩ => ⟨φ, F, ρ, S, g, sl, PostG.bind g p fun φ1 F1 H1 S1 vs xs nw1 r1 p1 => by
  obtain ⟨φ2, F2, S2, ds, nw2, f2, p2⟩ := frs_ok (k := fun ds S2 => if ds.length ≤ 1000 then Res.ok (Vl.d (.tuple ds)) S2 else .bad) nw1.sg r1 p1
  by_cases hl : ds.length ≤ 1000
  · simp only [hl, if_true] at p2
    exact ⟨by rw [f2.len]; exact line1000 hl, Post.newT nw2.sg f2 (PostG.start nw1.sg nw2 p2)⟩
  · simp only [hl, if_false] at p2
    exact p2.elim⟩⟩
theorem de_lst (m : Bool) (h : DA τ X W es fs) : DE τ X W (.List es pos) (eLst m fs) := ⟨PE.mono (pe_lst h.r) fun σ H Q ⟨φ, F, ρ, S, g, sl, p⟩ => ⟨φ, F, ρ, S, g, sl, PostG.bind g p fun φ1 F1 H1 S1 vs xs nw1 r1 p1 => by
  obtain ⟨φ2, F2, S2, ds, nw2, f2, p2⟩ := frs_ok (k := fun ds S2 => if ds.length ≤ 1000 then mkL m ds S2 else .bad) nw1.sg r1 p1
  by_cases hl : ds.length ≤ 1000
  · simp only [hl, if_true] at p2
    exact ⟨by rw [f2.len]; exact line1000 hl, Post.newL nw2.sg f2 (PostG.start nw1.sg nw2 p2)⟩
  · simp only [hl, if_false] at p2
    exact p2.elim⟩⟩
theorem dw_one (h : DT τ X W a ga) : DW τ X W (.BoolOp .And [a] pos) ga := ⟨pw_and1 h.r⟩
theorem dw_or1 (h : DT τ X W a ga) : DW τ X W (.BoolOp .Or [a] pos) ga := ⟨pw_or1 h.r⟩
theorem dw_and (ha : DT τ X W a ga) (hb : DW τ X W (.BoolOp .And (b :: rest) pos) gb) : DW τ X W (.BoolOp .And (a :: b :: rest) pos) (tAnd ga gb) := ⟨PW.mono (pw_and ha.r hb.r) fun σ H Q ⟨φ, F, ρ, S, g, sl, p⟩ => ⟨φ, F, ρ, S, g, sl, PostG.bind (R' := RepB) g p fun φ1 F1 H1 S1 v x nw1 r1 p1 => by
  have r1 : x = v := r1
  subst r1
  cases x with
  | true => exact ⟨φ1, F1, ρ, S1, nw1.sg, sl.now nw1, p1⟩
  | false => exact PostT.ok nw1.sg p1⟩⟩
theorem dw_or (ha : DT τ X W a ga) (hb : DW τ X W (.BoolOp .Or (b :: rest) pos) gb) : DW τ X W (.BoolOp .Or (a :: b :: rest) pos) (tOr ga gb) := ⟨PW.mono (pw_or ha.r hb.r) fun σ H Q ⟨φ, F, ρ, S, g, sl, p⟩ => ⟨φ, F, ρ, S, g, sl, PostG.bind (R' := RepB) g p fun φ1 F1 H1 S1 v x nw1 r1 p1 => by
  have r1 : x = v := r1
  subst r1
  cases x with
  | false => exact ⟨φ1, F1, ρ, S1, nw1.sg, sl.now nw1, p1⟩
  | true => exact PostT.ok nw1.sg p1⟩⟩
theorem DW.t (h : DW τ X W e ga) : DT τ X W e ga := ⟨h.r.pt⟩
theorem dt_not (ha : DT τ X W a ga) : DT τ X W (.UnaryOp .Not a pos) (tNot ga) := ⟨PT.mono (pt_not ha.r) fun σ H Q ⟨φ, F, ρ, S, g, sl, p⟩ => ⟨φ, F, ρ, S, g, sl, PostG.bind (R' := RepB) g p fun φ1 F1 H1 S1 v x nw1 r1 p1 => by
  have r1 : x = v := r1
  subst r1
  exact PostT.ok nw1.sg p1⟩⟩
theorem de_one {op} (h : DE τ X W a fa) : DE τ X W (.BoolOp op [a] pos) fa := ⟨pe_one h.r⟩
theorem de_and (ha : DE τ X W a fa) (hb : DE τ X W (.BoolOp .And (b :: rest) pos) fb) : DE τ X W (.BoolOp .And (a :: b :: rest) pos) (eAnd fa fb) := ⟨PE.mono (pe_and ha.r hb.r) fun σ H Q ⟨φ, F, ρ, S, g, sl, p⟩ => ⟨φ, F, ρ, S, g, sl, PostG.bind g p fun φ1 F1 H1 S1 v x nw1 r1 p1 => by
  cases v with
  | d y =>
    cases y with
    | bool c =>
      cases r1
      refine ⟨c, rfl, ?_⟩
      cases c with
      | true => exact ⟨φ1, F1, ρ, S1, nw1.sg, sl.now nw1, p1⟩
      | false => exact Post.ok nw1.sg p1 (.bl false)
    | _ => exact p1.elim
  | _ => exact p1.elim⟩⟩
theorem de_or (ha : DE τ X W a fa) (hb : DE τ X W (.BoolOp .Or (b :: rest) pos) fb) : DE τ X W (.BoolOp .Or (a :: b :: rest) pos) (eOr fa fb) := ⟨PE.mono (pe_or ha.r hb.r) fun σ H Q ⟨φ, F, ρ, S, g, sl, p⟩ => ⟨φ, F, ρ, S, g, sl, PostG.bind g p fun φ1 F1 H1 S1 v x nw1 r1 p1 => by
  cases v with
  | d y =>
    cases y with
    | bool c =>
      cases r1
      refine ⟨c, rfl, ?_⟩
      cases c with
      | false => exact ⟨φ1, F1, ρ, S1, nw1.sg, sl.now nw1, p1⟩
      | true => exact Post.ok nw1.sg p1 (.bl true)
    | _ => exact p1.elim
  | _ => exact p1.elim⟩⟩
theorem de_not (ha : DE τ X W a fa) : DE τ X W (.UnaryOp .Not a pos) (eNot fa) := ⟨PE.mono (pe_not ha.r) fun σ H Q ⟨φ, F, ρ, S, g, sl, p⟩ => ⟨φ, F, ρ, S, g, sl, PostG.bind g p fun φ1 F1 H1 S1 v x nw1 r1 p1 => by
  cases v with
  | d y =>
    cases y with
    | bool c => cases r1; exact ⟨c, rfl, Post.ok nw1.sg p1 (.bl _)⟩
    | _ => exact p1.elim
  | _ => exact p1.elim⟩⟩
theorem de_if {c : Expr} (hc : DT τ X W c ga) (ha : DE τ X W a fa) (hb : DE τ X W b fb) : DE τ X W (.IfExp c a b pos) (eIf ga fa fb) := ⟨PE.mono (pe_ifExp hc.r ha.r hb.r) fun σ H Q ⟨φ, F, ρ, S, g, sl, p⟩ => ⟨φ, F, ρ, S, g, sl, PostG.bind (R' := RepB) g p fun φ1 F1 H1 S1 v x nw1 r1 p1 => by
  have r1 : x = v := r1
  subst r1
  cases x with
  | true => exact ⟨φ1, F1, ρ, S1, nw1.sg, sl.now nw1, p1⟩
  | false => exact ⟨φ1, F1, ρ, S1, nw1.sg, sl.now nw1, p1⟩⟩⟩
theorem de_call {f : Addr} {fd : FuncData} {ps : List Str} {n : Nat} {g : Fn} {x : Str} {p : Pos} {j : Nat} (cc : Cc X W j) (G : Fk X.prog X.w X.K X.mg X.base k f fd ps (spN τ X.K X.mg n g)) (hj : k ≤ j) (hg : Gl X x) (hm : X.mg x = some (.ref f)) (hk : PySem.W.keepIn X.K (.ref f) = true)
    (hb : Binds X.K fd ps []) (ha : DA τ X W (e :: es) fs) (hdb : (x == ("__debug__" : Str)) = false := by decide) (he : starEach (e :: es) X.env = (false, eval e X.env) :: starEach es X.env := by rfl)
    (hpl : (backTo pos (starEach es X.env)).any (·.1) = false := by rfl) : DE τ X W (.Call (.Name x p) (e :: es) [] pos) (eCallN n g fs) :=
  ⟨PE.mono (pe_callk G (cc.rm.mono hj) cc.gd cc.tk hg hm hk hb ha.r hdb he hpl) fun σ H Q ⟨φ, F, ρ, S, g, sl, p⟩ => ⟨φ, F, ρ, S, g, sl, PostG.bind g p fun φ1 F1 H1 S1 vs xs nw1 r1 p1 => by
    by_cases hl : vs.length = n
    · rw [if_pos hl] at p1
      exact ⟨r1.len.trans hl, φ1, F1, vs, S1, nw1.sg, r1, p1⟩
    · rw [if_neg hl] at p1; exact p1.elim⟩⟩
def eCall0 (n : Nat) (g : Fn) : Ev := fun _ S => if n = 0 then g [] S else .bad
theorem de_call0 {f : Addr} {fd : FuncData} {ps : List Str} {n : Nat} {g : Fn} {x : Str} {p : Pos} {j : Nat} (cc : Cc X W j) (G : Fk X.prog X.w X.K X.mg X.base k f fd ps (spN τ X.K X.mg n g)) (hj : k ≤ j) (hg : Gl X x) (hm : X.mg x = some (.ref f)) (hk : PySem.W.keepIn X.K (.ref f) = true)
    (hb : Binds X.K fd ps []) (hdb : (x == ("__debug__" : Str)) = false := by decide) : DE τ X W (.Call (.Name x p) [] [] pos) (eCall0 n g) :=
  ⟨PE.mono (pe_callk0 G (cc.rm.mono hj) cc.gd cc.tk hg hm hk hb hdb) fun σ H Q ⟨φ, F, ρ, S, gg, sl, p⟩ => by
    unfold eCall0 at p
    by_cases hl : n = 0
    · rw [if_pos hl] at p
      exact ⟨hl.symm, φ, F, [], S, gg, trivial, p⟩
    · rw [if_neg hl] at p; exact p.elim⟩
theorem de_callB {id : String} {x : Str} {p : Pos} {r : List V → Hp → VK → Prop} {o : Fn} (hc : CallR X (.builtin id) r) (ok : CallOk τ X.K X.mg r o) (hg : Gl X x) (hm : X.mg x = none) (hv : bootBuiltins x = some (.builtin id)) (ha : DA τ X W (e :: es) fs) (hn : x ≠ "__name__" := by decide) (hdb : (x == ("__debug__" : Str)) = false := by decide)
    (he : starEach (e :: es) X.env = (false, eval e X.env) :: starEach es X.env := by rfl) (hpl : (backTo pos (starEach es X.env)).any (·.1) = false := by rfl) : DE τ X W (.Call (.Name x p) (e :: es) [] pos) (eCall o fs) :=
  ⟨PE.mono (pe_callB hc hg hm hv ha.r hn hdb he hpl) fun σ H Q ⟨φ, F, ρ, S, g, sl, p⟩ => ⟨φ, F, ρ, S, g, sl, PostG.bind g p fun φ1 F1 H1 S1 vs xs nw1 r1 p1 => ok nw1.sg r1 p1⟩⟩
theorem de_callTy {T : String} {x : Str} {p : Pos} {r : List V → Hp → VK → Prop} {o : Fn} (hc : CallR X (.type T) r) (ok : CallOk τ X.K X.mg r o) (hg : Gl X x) (hm : X.mg x = none) (hv : bootBuiltins x = some (.type T)) (ha : DA τ X W (e :: es) fs) (hn : x ≠ "__name__" := by decide) (hdb : (x == ("__debug__" : Str)) = false := by decide)
    (he : starEach (e :: es) X.env = (false, eval e X.env) :: starEach es X.env := by rfl) (hpl : (backTo pos (starEach es X.env)).any (·.1) = false := by rfl) : DE τ X W (.Call (.Name x p) (e :: es) [] pos) (eCall o fs) :=
  ⟨PE.mono (pe_callTy hc hg hm hv ha.r hn hdb he hpl) fun σ H Q ⟨φ, F, ρ, S, g, sl, p⟩ => ⟨φ, F, ρ, S, g, sl, PostG.bind g p fun φ1 F1 H1 S1 vs xs nw1 r1 p1 => ok nw1.sg r1 p1⟩⟩
end
section
variable {K : PySem.W.Frag} {F : Addr → Prop} {H : Hp}
mutual
theorem Fz.dp : ∀ (d : D) (v : V), Fz K F H v d → d.plain = true → Dp K H v d
  | .none, _, h, _ => by cases h; exact .non
  | .bool b, _, h, _ => by cases h; exact .bl b
  | .int i, _, h, _ => by cases h; exact .int i
  | .str x, _, h, _ => by cases h; exact .str x
  | .list ds, _, h, p => by
    cases h with
    | lst h1 h2 h3 => exact .lst (.inl (.inl h2)) (FzAll.dp ds _ h3 (by simpa [PyData.plain] using p))
  | .tuple ds, _, h, p => by
    cases h with
    | tup h1 h2 => exact .tup h1.sq (FzAll.dp ds _ h2 (by simpa [PyData.plain] using p))
  | .dict ds, _, h, p => by simp [PyData.plain] at p
theorem FzAll.dp : ∀ (ds : List D) (vs : List V), FzAll K F H vs ds → PyData.plainAll ds = true → DpAll K H vs ds
  | [], _, h, _ => by cases h; exact .nil
  | d :: ds, _, h, p => by
    have p' : d.plain = true ∧ PyData.plainAll ds = true := by simpa [PyData.plainAll] using p
    cases h with
    | cons h1 h2 => exact .cons (Fz.dp d _ h1 p'.1) (FzAll.dp ds _ h2 p'.2)
end
theorem Ob.dp {d : D} {x : V} (h : Ob K F H x d) (p : d.plain = true) : Dp K H x d := by
  cases d with
  | none => cases h; exact .non
  | bool b => cases h; exact .bl b
  | int i => cases h; exact .int i
  | str z => cases h; exact .str z
  | list ds => obtain ⟨a, xs, rfl, h1, h2⟩ := h; exact .lst (.inl (.inl h1)) (h2.dp ds xs (by simpa [PyData.plain] using p))
  | tuple ds => obtain ⟨a, xs, rfl, h1, h2⟩ := h; exact .tup h1.sq (h2.dp ds xs (by simpa [PyData.plain] using p))
  | dict ds => simp [PyData.plain] at p
end
def shal (d : D) : Bool := d.plain && decide (d.depth ≤ 60)
def oPost (d : Option D) (S : Store) : Res Vl := match d with
  | some d => .ok (.d d) S
  | none => .bad
def mulOk (i j : Int) : Bool := decide (i.natAbs < 2 ^ 64) || decide (j.natAbs < 2 ^ 64) || (decide (i.natAbs < 2 ^ 4000) && decide (j.natAbs < 2 ^ 4000))
theorem log2_lt {n k : Nat} (h : n < 2 ^ k) : n.log2 ≤ k := by
  by_cases e : n = 0
  · subst e; simp
  · exact Nat.le_of_lt ((Nat.log2_lt e).mpr h)
theorem mulOk_ok {i j : Int} (h : mulOk i j = true) : IntMulOk i j := by
  simp only [mulOk, Bool.or_eq_true, Bool.and_eq_true, decide_eq_true_eq] at h
  rcases h with (h | h) | ⟨h1, h2⟩
  · exact CMul.ok (.inl ⟨by omega, by omega⟩)
  · exact CMul.ok (.inr ⟨by omega, by omega⟩)
  · exact CMulW.ok (by have := log2_lt h1; have := log2_lt h2; unfold CMulW; omega)
theorem natAbs_pow {j : Int} {k : Nat} (h0 : 0 < j) (h : j < 2 ^ k) : j.natAbs < 2 ^ k := by
  have e : (j.natAbs : Int) = j := Int.natAbs_of_nonneg (Int.le_of_lt h0)
  have h3 : (j.natAbs : Int) < ((2 ^ k : Nat) : Int) := by
    rw [e, Int.natCast_pow]
    exact h
  exact Int.ofNat_lt.mp h3
def oAdd (m : Bool) (a b : Vl) (S : Store) : Res Vl := match view S a, view S b with
  | some (.int i), some (.int j) => .ok (.d (.int (i + j))) S
  | some (.str x), some (.str y) => if x.length + y.length ≤ sizeLine then .ok (.d (.str (x ++ y))) S else .bad
  | some (.tuple xs), some (.tuple ys) => if xs.length + ys.length ≤ sizeLine then .ok (.d (.tuple (xs ++ ys))) S else .bad
  | some (.list xs), some (.list ys) => if xs.length + ys.length ≤ sizeLine then mkL m (xs ++ ys) S else .bad
  | _, _ => .bad
def oSub (a b : Vl) (S : Store) : Res Vl := match view S a, view S b with
  | some (.int i), some (.int j) => .ok (.d (.int (i - j))) S
  | _, _ => .bad
def oMul (m : Bool) (a b : Vl) (S : Store) : Res Vl := match view S a, view S b with
  | some (.int i), some (.int j) => if mulOk i j = true then .ok (.d (.int (i * j))) S else .bad
  | some (.list xs), some (.int k) => if -(2 ^ 63) ≤ k ∧ k < 2 ^ 63 ∧ xs.length * k.toNat ≤ sizeLine then mkL m (List.replicate k.toNat xs).flatten S else .bad
  | some (.tuple xs), some (.int k) => if xs ≠ [] ∧ 2 ≤ k ∧ k ≤ 1000 ∧ xs.length ≤ 1000 then .ok (.d (.tuple (List.replicate k.toNat xs).flatten)) S else .bad
  | _, _ => .bad
def oDiv (a b : Vl) (S : Store) : Res Vl := match view S a, view S b with
  | some (.int i), some (.int j) => if 0 < j ∧ j < 2 ^ 4000 then .ok (.d (.int (i / j))) S else if j ≠ 0 ∧ j.natAbs < 1073741824 then .ok (.d (.int (i.fdiv j))) S else .bad
  | _, _ => .bad
def oMod (a b : Vl) (S : Store) : Res Vl := match view S a, view S b with
  | some (.int i), some (.int j) => if 0 < j then .ok (.d (.int (i % j))) S else if j ≠ 0 then .ok (.d (.int (i.fmod j))) S else .bad
  | _, _ => .bad
def oPow (a b : Vl) (S : Store) : Res Vl := match view S a, view S b with
  | some (.int i), some (.int j) => if 0 ≤ j ∧ j ≤ 1000000 ∧ i.natAbs < 2 ^ 64 then .ok (.d (.int (i ^ j.toNat))) S else .bad
  | _, _ => .bad
def oNeg (a : Vl) (S : Store) : Res Vl := match view S a with
  | some (.int i) => .ok (.d (.int (-i))) S
  | _ => .bad
def oEq (a b : Vl) (S : Store) : Res Vl := match view S a, view S b with
  | some x, some y => if (shal x && shal y) = true then .ok (.d (.bool (PyData.eqv x y))) S else .bad
  | _, _ => .bad
def oNe (a b : Vl) (S : Store) : Res Vl := match view S a, view S b with
  | some x, some y => if (shal x && shal y) = true then .ok (.d (.bool !(PyData.eqv x y))) S else .bad
  | _, _ => .bad
def isNone : D → Bool
  | .none => true
  | _ => false
def ordOk (x y : D) : Bool := shal x && shal y && PySem.W.alike x y && !isNone x
def oLt (a b : Vl) (S : Store) : Res Vl := match view S a, view S b with
  | some (.int i), some (.int j) => .ok (.d (.bool (decide (i < j)))) S
  | some x, some y => if ordOk x y = true then .ok (.d (.bool (PySem.W.dataLt x y))) S else .bad
  | _, _ => .bad
def oGt (a b : Vl) (S : Store) : Res Vl := match view S a, view S b with
  | some (.int i), some (.int j) => .ok (.d (.bool (decide (j < i)))) S
  | some x, some y => if ordOk x y = true then .ok (.d (.bool (PySem.W.dataLt y x))) S else .bad
  | _, _ => .bad
def oLe (a b : Vl) (S : Store) : Res Vl := match view S a, view S b with
  | some (.int i), some (.int j) => .ok (.d (.bool (decide (i ≤ j)))) S
  | some x, some y => if ordOk x y = true then .ok (.d (.bool !(PySem.W.dataLt y x))) S else .bad
  | _, _ => .bad
def oGe (a b : Vl) (S : Store) : Res Vl := match view S a, view S b with
  | some (.int i), some (.int j) => .ok (.d (.bool (decide (j ≤ i)))) S
  | some x, some y => if ordOk x y = true then .ok (.d (.bool !(PySem.W.dataLt x y))) S else .bad
  | _, _ => .bad
def isIn (x : D) (ys : List D) : Bool := ys.any fun y => PyData.eqv y x
def oIn (neg : Bool) (a b : Vl) (S : Store) : Res Vl := match view S a, view S b with
  | some x, some (.list ys) => if (shal x && shal (.list ys)) = true then .ok (.d (.bool (if neg = true then !isIn x ys else isIn x ys))) S else .bad
  | some x, some (.tuple ys) => if (shal x && shal (.tuple ys)) = true then .ok (.d (.bool (if neg = true then !isIn x ys else isIn x ys))) S else .bad
  | _, _ => .bad
def oIs (neg : Bool) (a b : Vl) (S : Store) : Res Vl := match view S b with
  | some .none => match view S a with
    | some x => .ok (.d (.bool (if neg = true then !isNone x else isNone x))) S
    | _ => .bad
  | some (.bool q) => match view S a with
    | some (.bool p) => .ok (.d (.bool (if neg = true then !decide (p = q) else decide (p = q)))) S
    | _ => .bad
  | _ => .bad
def oIx (a b : Vl) (S : Store) : Res Vl := match view S a, view S b with
  | some (.list xs), some (.int i) => oPost (atI xs i) S
  | some (.tuple xs), some (.int i) => oPost (atI xs i) S
  | some (.str z), some (.int i) => if z.length ≤ sizeLine then oPost ((atI z.cps.toList i).map fun c => .str ⟨#[c]⟩) S else .bad
  | _, _ => .bad
section
variable {K : PySem.W.Frag} {mg : Str → Option Value} {φ : Nat → Addr} {F : Addr → Prop} {H : Hp} {S : Store} {x y : V} {v u : Vl} {Q : VK} {W : XW} {n : Nat} {m : Bool}
theorem FzAll.flat {xs : List V} {ds : List D} (h : FzAll K F H xs ds) : ∀ n, FzAll K F H (List.replicate n xs).flatten (List.replicate n ds).flatten
  | 0 => .nil
  | n + 1 => by
    rw [List.replicate_succ, List.replicate_succ, List.flatten_cons, List.flatten_cons]
    exact h.append (FzAll.flat h n)
theorem post_bad {v u : Vl} (p : Post τ K mg W n φ F H Q .bad) : False := p
def rMulX : R2 := rI (fun i j => mulOk i j = true) fun i j => .int (i * j)
def rDivX : R2 := rI (fun i j => 0 < j ∧ j < 2 ^ 4000) fun i j => .int (i / j)
theorem ok_add : OpOk τ K mg (fun x y H Q => rI0 (fun i j => V.int (i + j)) x y H Q ∨ (∃ i j, x = .str i ∧ y = .str j ∧ i.length + j.length ≤ sizeLine ∧ Q (.str (i ++ j)) H) ∨ rCatA K x y H Q ∨ rCat x y H Q) (oAdd m) := by
  intro φ F H S x y v u Q W g r1 r2 p
  cases e1 : view S v with
  | none => simp only [oAdd, e1] at p; exact p.elim
  | some d1 =>
    cases e2 : view S u with
    | none => simp only [oAdd, e1, e2] at p; exact p.elim
    | some d2 =>
      have o1 := ob_of g r1 e1
      have o2 := ob_of g r2 e2
      simp only [oAdd, e1, e2] at p
      cases d1 <;> cases d2 <;> dsimp only at p <;> first | exact p.elim | skip
      · exact .inl ⟨_, _, o1, o2, Post.ok g p (.int _)⟩
      · rename_i i j
        by_cases hl : i.length + j.length ≤ sizeLine
        · simp only [hl, if_true] at p
          exact .inr (.inl ⟨_, _, o1, o2, hl, Post.ok g p (.str _)⟩)
        · simp only [hl, if_false] at p; exact p.elim
      · rename_i ds es
        by_cases hl : ds.length + es.length ≤ sizeLine
        · simp only [hl, if_true] at p
          obtain ⟨a, xs, h1, h2, h3⟩ := o1
          obtain ⟨b, ys, h4, h5, h6⟩ := o2
          exact .inr (.inr (.inr ⟨a, b, xs, ys, h1, h4, h2, h5, by rw [h3.len, h6.len]; exact hl, Post.newL g (h3.append h6) p⟩))
        · simp only [hl, if_false] at p; exact p.elim
      · rename_i ds es
        by_cases hl : ds.length + es.length ≤ sizeLine
        · simp only [hl, if_true] at p
          obtain ⟨a, xs, h1, h2, h3⟩ := o1
          obtain ⟨b, ys, h4, h5, h6⟩ := o2
          refine .inr (.inr (.inl ⟨a, b, xs, ys, h1, h4, h2.sq, h5.sq, by rw [h3.len, h6.len]; exact hl, fun e => ?_, fun e e' => ?_, fun e e' => Post.newT g (h3.append h6) p⟩))
          · subst e
            cases h3
            exact Post.ok g p (.tup h5 h6)
          · subst e'
            cases h6
            rw [List.append_nil] at p
            exact Post.ok g p (.tup h2 h3)
        · simp only [hl, if_false] at p; exact p.elim
theorem ok_sub : OpOk τ K mg (rI0 fun i j => V.int (i - j)) oSub := by
  intro φ F H S x y v u Q W g r1 r2 p
  cases e1 : view S v with
  | none => simp only [oSub, e1] at p; exact p.elim
  | some d1 =>
    cases e2 : view S u with
    | none => simp only [oSub, e1, e2] at p; cases d1 <;> exact p.elim
    | some d2 =>
      have o1 := ob_of g r1 e1
      have o2 := ob_of g r2 e2
      simp only [oSub, e1, e2] at p
      cases d1 <;> cases d2 <;> dsimp only at p <;> first | exact p.elim | skip
      exact ⟨_, _, o1, o2, Post.ok g p (.int _)⟩
theorem ok_mul : OpOk τ K mg (fun x y H Q => rMulX x y H Q ∨ rRep x y H Q ∨ rRepT K x y H Q) (oMul m) := by
  intro φ F H S x y v u Q W g r1 r2 p
  cases e1 : view S v with
  | none => simp only [oMul, e1] at p; exact p.elim
  | some d1 =>
    cases e2 : view S u with
    | none => simp only [oMul, e1, e2] at p; cases d1 <;> exact p.elim
    | some d2 =>
      have o1 := ob_of g r1 e1
      have o2 := ob_of g r2 e2
      simp only [oMul, e1, e2] at p
      cases d1 <;> cases d2 <;> dsimp only at p <;> first | exact p.elim | skip
      · rename_i i j
        by_cases hl : mulOk i j = true
        · simp only [hl, if_true] at p
          exact .inl ⟨_, _, o1, o2, hl, Post.ok g p (.int _)⟩
        · simp only [hl] at p; exact p.elim
      · rename_i ds k
        by_cases hl : -(2 ^ 63) ≤ k ∧ k < 2 ^ 63 ∧ ds.length * k.toNat ≤ sizeLine
        · rw [if_pos hl] at p
          obtain ⟨a, xs, h1, h2, h3⟩ := o1
          exact .inr (.inl ⟨a, k, xs, h1, o2, h2, hl.1, hl.2.1, by rw [h3.len]; exact hl.2.2, Post.newL g (h3.flat _) p⟩)
        · rw [if_neg hl] at p; exact p.elim
      · rename_i ds k
        by_cases hl : ds ≠ [] ∧ 2 ≤ k ∧ k ≤ 1000 ∧ ds.length ≤ 1000
        · rw [if_pos hl] at p
          obtain ⟨a, xs, h1, h2, h3⟩ := o1
          exact .inr (.inr ⟨a, k, xs, h1, o2, h2.sq, fun e => hl.1 (by subst e; cases h3; rfl), hl.2.1, hl.2.2.1, by rw [h3.len]; exact hl.2.2.2, Post.newT g (h3.flat _) p⟩)
        · rw [if_neg hl] at p; exact p.elim
theorem ok_div : OpOk τ K mg (fun x y H Q => rDivX x y H Q ∨ rI CDivN (fun i j => V.int (i.fdiv j)) x y H Q) oDiv := by
  intro φ F H S x y v u Q W g r1 r2 p
  cases e1 : view S v with
  | none => simp only [oDiv, e1] at p; exact p.elim
  | some d1 =>
    cases e2 : view S u with
    | none => simp only [oDiv, e1, e2] at p; cases d1 <;> exact p.elim
    | some d2 =>
      have o1 := ob_of g r1 e1
      have o2 := ob_of g r2 e2
      simp only [oDiv, e1, e2] at p
      cases d1 <;> cases d2 <;> dsimp only at p <;> first | exact p.elim | skip
      rename_i i j
      by_cases hl : 0 < j ∧ j < 2 ^ 4000
      · rw [if_pos hl] at p
        exact .inl ⟨_, _, o1, o2, hl, Post.ok g p (.int _)⟩
      · rw [if_neg hl] at p
        by_cases h2 : j ≠ 0 ∧ j.natAbs < 1073741824
        · rw [if_pos h2] at p
          exact .inr ⟨_, _, o1, o2, h2, Post.ok g p (.int _)⟩
        · rw [if_neg h2] at p; exact p.elim
theorem ok_mod : OpOk τ K mg (fun x y H Q => rI (fun _ j => 0 < j) (fun i j => V.int (i % j)) x y H Q ∨ rI (fun _ j => j ≠ 0) (fun i j => V.int (i.fmod j)) x y H Q) oMod := by
  intro φ F H S x y v u Q W g r1 r2 p
  cases e1 : view S v with
  | none => simp only [oMod, e1] at p; exact p.elim
  | some d1 =>
    cases e2 : view S u with
    | none => simp only [oMod, e1, e2] at p; cases d1 <;> exact p.elim
    | some d2 =>
      have o1 := ob_of g r1 e1
      have o2 := ob_of g r2 e2
      simp only [oMod, e1, e2] at p
      cases d1 <;> cases d2 <;> dsimp only at p <;> first | exact p.elim | skip
      rename_i i j
      by_cases hl : 0 < j
      · rw [if_pos hl] at p
        exact .inl ⟨_, _, o1, o2, hl, Post.ok g p (.int _)⟩
      · rw [if_neg hl] at p
        by_cases h2 : j ≠ 0
        · rw [if_pos h2] at p
          exact .inr ⟨_, _, o1, o2, h2, Post.ok g p (.int _)⟩
        · rw [if_neg h2] at p; exact p.elim
theorem ok_pow : OpOk τ K mg (rI CPow fun i j => V.int (i ^ j.toNat)) oPow := by
  intro φ F H S x y v u Q W g r1 r2 p
  cases e1 : view S v with
  | none => simp only [oPow, e1] at p; exact p.elim
  | some d1 =>
    cases e2 : view S u with
    | none => simp only [oPow, e1, e2] at p; cases d1 <;> exact p.elim
    | some d2 =>
      have o1 := ob_of g r1 e1
      have o2 := ob_of g r2 e2
      simp only [oPow, e1, e2] at p
      cases d1 <;> cases d2 <;> dsimp only at p <;> first | exact p.elim | skip
      rename_i i j
      by_cases hl : 0 ≤ j ∧ j ≤ 1000000 ∧ i.natAbs < 2 ^ 64
      · rw [if_pos hl] at p
        exact ⟨_, _, o1, o2, hl, Post.ok g p (.int _)⟩
      · rw [if_neg hl] at p; exact p.elim
theorem ok_neg : UnOk τ K mg (rU fun i => V.int (-i)) oNeg := by
  intro φ F H S x v Q W g r1 p
  cases e1 : view S v with
  | none => simp only [oNeg, e1] at p; exact p.elim
  | some d1 =>
    have o1 := ob_of g r1 e1
    simp only [oNeg, e1] at p
    cases d1 <;> first | exact p.elim | skip
    exact ⟨_, o1, Post.ok g p (.int _)⟩
def rDD (K : PySem.W.Frag) (c : D → D → Bool) (f : D → D → Bool) : R2 := fun x y H Q => ∃ d e, Dp K H x d ∧ Dp K H y e ∧ shal d = true ∧ shal e = true ∧ c d e = true ∧ Q (.bl (f d e)) H
theorem shal_p {d : D} (h : shal d = true) : d.plain = true ∧ d.depth ≤ 60 := by simpa [shal] using h
theorem ok_eq : OpOk τ K mg (rDD K (fun _ _ => true) PyData.eqv) oEq := by
  intro φ F H S x y v u Q W g r1 r2 p
  cases e1 : view S v with
  | none => simp only [oEq, e1] at p; exact p.elim
  | some d1 =>
    cases e2 : view S u with
    | none => simp only [oEq, e1, e2] at p; exact p.elim
    | some d2 =>
      simp only [oEq, e1, e2] at p
      by_cases hl : (shal d1 && shal d2) = true
      · rw [if_pos hl] at p
        have h2 : shal d1 = true ∧ shal d2 = true := by simpa using hl
        exact ⟨d1, d2, (ob_of g r1 e1).dp (shal_p h2.1).1, (ob_of g r2 e2).dp (shal_p h2.2).1, h2.1, h2.2, rfl, Post.ok g p (.bl _)⟩
      · rw [if_neg hl] at p; exact p.elim
theorem ok_ne : OpOk τ K mg (rDD K (fun _ _ => true) fun d e => !PyData.eqv d e) oNe := by
  intro φ F H S x y v u Q W g r1 r2 p
  cases e1 : view S v with
  | none => simp only [oNe, e1] at p; exact p.elim
  | some d1 =>
    cases e2 : view S u with
    | none => simp only [oNe, e1, e2] at p; exact p.elim
    | some d2 =>
      simp only [oNe, e1, e2] at p
      by_cases hl : (shal d1 && shal d2) = true
      · rw [if_pos hl] at p
        have h2 : shal d1 = true ∧ shal d2 = true := by simpa using hl
        exact ⟨d1, d2, (ob_of g r1 e1).dp (shal_p h2.1).1, (ob_of g r2 e2).dp (shal_p h2.2).1, h2.1, h2.2, rfl, Post.ok g p (.bl _)⟩
      · rw [if_neg hl] at p; exact p.elim
def rOrd (K : PySem.W.Frag) (fi : Int → Int → Bool) (f : D → D → Bool) : R2 := fun x y H Q => rI0 (fun i j => V.bl (fi i j)) x y H Q ∨ rDD K ordOk f x y H Q
theorem ordOk_p {x y : D} (h : ordOk x y = true) : shal x = true ∧ shal y = true ∧ PySem.W.alike x y = true ∧ x ≠ .none := by
  simp only [ordOk, Bool.and_eq_true, Bool.not_eq_true'] at h
  obtain ⟨⟨⟨h1, h2⟩, h3⟩, h4⟩ := h
  exact ⟨h1, h2, h3, fun e => by subst e; cases h4⟩
theorem ok_ord {o : Vl → Vl → Store → Res Vl} {fi : Int → Int → Bool} {f : D → D → Bool} (h0 : ∀ v u S, (view S v = none ∨ view S u = none) → o v u S = .bad) (h1 : ∀ v u S i j, view S v = some (.int i) → view S u = some (.int j) → o v u S = .ok (.d (.bool (fi i j))) S)
    (h2 : ∀ v u S d1 d2, view S v = some d1 → view S u = some d2 → (¬ ∃ i j, d1 = .int i ∧ d2 = .int j) → o v u S = if ordOk d1 d2 = true then .ok (.d (.bool (f d1 d2))) S else .bad) : OpOk τ K mg (rOrd K fi f) o := by
  intro φ F H S x y v u Q W g r1 r2 p
  cases e1 : view S v with
  | none => rw [h0 v u S (.inl e1)] at p; exact p.elim
  | some d1 =>
    cases e2 : view S u with
    | none => rw [h0 v u S (.inr e2)] at p; exact p.elim
    | some d2 =>
      have o1 := ob_of g r1 e1
      have o2 := ob_of g r2 e2
      by_cases q : ∃ i j, d1 = .int i ∧ d2 = .int j
      · obtain ⟨i, j, rfl, rfl⟩ := q
        rw [h1 v u S i j e1 e2] at p
        exact .inl ⟨_, _, o1, o2, Post.ok g p (.bl _)⟩
      · rw [h2 v u S d1 d2 e1 e2 q] at p
        by_cases hl : ordOk d1 d2 = true
        · rw [if_pos hl] at p
          exact .inr ⟨d1, d2, o1.dp (shal_p (ordOk_p hl).1).1, o2.dp (shal_p (ordOk_p hl).2.1).1, (ordOk_p hl).1, (ordOk_p hl).2.1, hl, Post.ok g p (.bl _)⟩
        · rw [if_neg hl] at p; exact p.elim
theorem ok_lt : OpOk τ K mg (rOrd K (fun i j => decide (i < j)) PySem.W.dataLt) oLt := by
  refine ok_ord (fun v u S h => ?_) (fun v u S i j h1 h2 => by simp only [oLt, h1, h2]) fun v u S d1 d2 h1 h2 n => ?_
  · unfold oLt
    rcases h with h | h
    · simp only [h]
    · cases e : view S v with
      | none => simp only [h]
      | some d => simp only [h]
  · simp only [oLt, h1, h2]
    cases d1 <;> cases d2 <;> first | rfl | exact (n ⟨_, _, rfl, rfl⟩).elim
theorem ok_gt : OpOk τ K mg (rOrd K (fun i j => decide (j < i)) fun d e => PySem.W.dataLt e d) oGt := by
  refine ok_ord (fun v u S h => ?_) (fun v u S i j h1 h2 => by simp only [oGt, h1, h2]) fun v u S d1 d2 h1 h2 n => ?_
  · unfold oGt
    rcases h with h | h
    · simp only [h]
    · cases e : view S v with
      | none => simp only [h]
      | some d => simp only [h]
  · simp only [oGt, h1, h2]
    cases d1 <;> cases d2 <;> first | rfl | exact (n ⟨_, _, rfl, rfl⟩).elim
theorem ok_le : OpOk τ K mg (rOrd K (fun i j => decide (i ≤ j)) fun d e => !PySem.W.dataLt e d) oLe := by
  refine ok_ord (fun v u S h => ?_) (fun v u S i j h1 h2 => by simp only [oLe, h1, h2]) fun v u S d1 d2 h1 h2 n => ?_
  · unfold oLe
    rcases h with h | h
    · simp only [h]
    · cases e : view S v with
      | none => simp only [h]
      | some d => simp only [h]
  · simp only [oLe, h1, h2]
    cases d1 <;> cases d2 <;> first | rfl | exact (n ⟨_, _, rfl, rfl⟩).elim
theorem ok_ge : OpOk τ K mg (rOrd K (fun i j => decide (j ≤ i)) fun d e => !PySem.W.dataLt d e) oGe := by
  refine ok_ord (fun v u S h => ?_) (fun v u S i j h1 h2 => by simp only [oGe, h1, h2]) fun v u S d1 d2 h1 h2 n => ?_
  · unfold oGe
    rcases h with h | h
    · simp only [h]
    · cases e : view S v with
      | none => simp only [h]
      | some d => simp only [h]
  · simp only [oGe, h1, h2]
    cases d1 <;> cases d2 <;> first | rfl | exact (n ⟨_, _, rfl, rfl⟩).elim
def rInP (K : PySem.W.Frag) (neg : Bool) : R2 := fun x y H Q => ∃ d es, Dp K H x d ∧ (Dp K H y (.list es) ∨ Dp K H y (.tuple es)) ∧ shal d = true ∧ shal (.list es) = true ∧ Q (.bl (if neg = true then !isIn d es else isIn d es)) H
theorem shal_tup {es : List D} : shal (.tuple es) = shal (.list es) := by simp [shal, PyData.plain, PyData.depth]
theorem ok_in {neg : Bool} : OpOk τ K mg (rInP K neg) (oIn neg) := by
  intro φ F H S x y v u Q W g r1 r2 p
  cases e1 : view S v with
  | none => simp only [oIn, e1] at p; exact p.elim
  | some d1 =>
    cases e2 : view S u with
    | none => simp only [oIn, e1, e2] at p; exact p.elim
    | some d2 =>
      simp only [oIn, e1, e2] at p
      cases d2 <;> dsimp only at p <;> first | exact p.elim | skip
      · rename_i es
        by_cases hl : (shal d1 && shal (.list es)) = true
        · rw [if_pos hl] at p
          have h2 : shal d1 = true ∧ shal (.list es) = true := by simpa using hl
          exact ⟨d1, es, (ob_of g r1 e1).dp (shal_p h2.1).1, .inl ((ob_of g r2 e2).dp (shal_p h2.2).1), h2.1, h2.2, Post.ok g p (.bl _)⟩
        · rw [if_neg hl] at p; exact p.elim
      · rename_i es
        by_cases hl : (shal d1 && shal (.tuple es)) = true
        · rw [if_pos hl] at p
          have h2 : shal d1 = true ∧ shal (.tuple es) = true := by simpa using hl
          exact ⟨d1, es, (ob_of g r1 e1).dp (shal_p h2.1).1, .inr ((ob_of g r2 e2).dp (shal_p h2.2).1), h2.1, by rw [← shal_tup]; exact h2.2, Post.ok g p (.bl _)⟩
        · rw [if_neg hl] at p; exact p.elim
def rIsX (neg : Bool) : R2 := fun x y H Q => (y = .non ∧ Q (.bl (if neg = true then !decide (x = .non) else decide (x = .non))) H) ∨ ∃ a b : Bool, x = .bl a ∧ y = .bl b ∧ Q (.bl (if neg = true then !decide (a = b) else decide (a = b))) H
theorem isNone_ob {d : D} (o : Ob K F H x d) : decide (x = .non) = isNone d := by
  cases d with
  | none => cases o; rfl
  | bool b => cases o; rfl
  | int b => cases o; rfl
  | str b => cases o; rfl
  | list b => obtain ⟨a, xs, rfl, _⟩ := o; rfl
  | tuple b => obtain ⟨a, xs, rfl, _⟩ := o; rfl
  | dict b => obtain ⟨a, xs, rfl, _⟩ := o; rfl
theorem ok_is {neg : Bool} : OpOk τ K mg (rIsX neg) (oIs neg) := by
  intro φ F H S x y v u Q W g r1 r2 p
  cases e2 : view S u with
  | none => simp only [oIs, e2] at p; exact p.elim
  | some d2 =>
    have o2 := ob_of g r2 e2
    simp only [oIs, e2] at p
    cases d2 <;> first | exact p.elim | skip
    · cases e1 : view S v with
      | none => simp only [e1] at p; exact p.elim
      | some d1 =>
        simp only [e1] at p
        refine .inl ⟨o2, ?_⟩
        rw [isNone_ob (ob_of g r1 e1)]
        exact Post.ok g p (.bl _)
    · cases e1 : view S v with
      | none => simp only [e1] at p; exact p.elim
      | some d1 =>
        simp only [e1] at p
        cases d1 <;> first | exact p.elim | skip
        exact .inr ⟨_, _, ob_of g r1 e1, o2, Post.ok g p (.bl _)⟩
theorem FzAll.atI {xs : List V} {ds : List D} {i : Int} {d : D} (h : FzAll K F H xs ds) (e : atI ds i = some d) : ∃ v, atI xs i = some v ∧ Fz K F H v d := by
  unfold L2.atI at e ⊢
  rw [h.len]
  cases q : ixN ds.length i with
  | none => rw [q] at e; cases e
  | some j =>
    rw [q] at e
    exact h.get e
theorem ok_ix : OpOk τ K mg (rIx K) oIx := by
  intro φ F H S x y v u Q W g r1 r2 p
  cases e1 : view S v with
  | none => simp only [oIx, e1] at p; exact p.elim
  | some d1 =>
    cases e2 : view S u with
    | none => simp only [oIx, e1, e2] at p; cases d1 <;> exact p.elim
    | some d2 =>
      have o1 := ob_of g r1 e1
      have o2 := ob_of g r2 e2
      simp only [oIx, e1, e2] at p
      cases d1 <;> cases d2 <;> dsimp only at p <;> first | exact p.elim | skip
      · rename_i z i
        by_cases hl : z.length ≤ sizeLine
        · rw [if_pos hl] at p
          cases q : atI z.cps.toList i with
          | none => rw [q] at p; exact p.elim
          | some c =>
            rw [q] at p
            exact .inr (.inr ⟨z, i, c, o1, o2, hl, q, Post.ok g p (.str _)⟩)
        · rw [if_neg hl] at p; exact p.elim
      · rename_i ds i
        obtain ⟨a, xs, h1, h2, h3⟩ := o1
        cases q : atI ds i with
        | none => rw [q] at p; exact p.elim
        | some d =>
          rw [q] at p
          obtain ⟨w, hw, fw⟩ := h3.atI q
          exact .inl ⟨a, xs, i, w, h1, o2, .inl (.inl h2), hw, Post.ok g p fw⟩
      · rename_i ds i
        obtain ⟨a, xs, h1, h2, h3⟩ := o1
        cases q : atI ds i with
        | none => rw [q] at p; exact p.elim
        | some d =>
          rw [q] at p
          obtain ⟨w, hw, fw⟩ := h3.atI q
          exact .inr (.inl ⟨a, xs, i, w, h1, o2, h2.sq, hw, Post.ok g p fw⟩)
end
section
variable {X : Cx}
theorem op_addX : OpR X (binaryOp .Add) (fun x y H Q => rI0 (fun i j => V.int (i + j)) x y H Q ∨ (∃ i j, x = .str i ∧ y = .str j ∧ i.length + j.length ≤ sizeLine ∧ Q (.str (i ++ j)) H) ∨ rCatA X.K x y H Q ∨ rCat x y H Q) := op_add.or (op_add_str.or (op_catA.or op_cat))
theorem op_mulX' : OpR X (binaryOp .Mult) (fun x y H Q => rMulX x y H Q ∨ rRep x y H Q ∨ rRepT X.K x y H Q) := OpR.or (opI fun _ _ _ _ _ _ _ hc q => mul_int q (mulOk_ok hc)) (op_rep.or op_repT)
theorem op_divX : OpR X (binaryOp .FloorDiv) (fun x y H Q => rDivX x y H Q ∨ rI CDivN (fun i j => V.int (i.fdiv j)) x y H Q) := by
  refine OpR.or (fun pins s σ H x y v u Q I rx ry h => ?_) op_fdivN
  obtain ⟨i, j, e1, e2, ⟨h1, h2⟩, q⟩ := h
  refine op_fdivW pins s σ H x y v u Q I rx ry ⟨i, j, e1, e2, ⟨h1, ?_⟩, q⟩
  exact Nat.lt_of_le_of_lt (log2_lt (natAbs_pow h1 h2)) (by decide)
theorem op_modX : OpR X (binaryOp .Mod) (fun x y H Q => rI (fun _ j => 0 < j) (fun i j => V.int (i % j)) x y H Q ∨ rI (fun _ j => j ≠ 0) (fun i j => V.int (i.fmod j)) x y H Q) := op_mod.or op_modN
theorem depth_min {A : Around} {d e : D} (hu : A.units + 64 < cLine) (h : shal d = true) : A.units + min d.depth e.depth < cLine := by
  have := (shal_p h).2
  omega
theorem op_eqX (hu : X.A.units + 64 < cLine) : OpR X (compareOp .Eq) (rDD X.K (fun _ _ => true) PyData.eqv) := by
  intro pins s σ H x y v u Q I rx ry h
  obtain ⟨d, e, hd, he, sd, se, _, q⟩ := h
  obtain ⟨as, r1⟩ := Dp.reads I d x v hd rx
  obtain ⟨bs, r2⟩ := Dp.reads I e y u he ry
  exact PySem.SeqAt.eq_plain r1 r2 (shal_p sd).1 (shal_p se).1 (depth_min hu sd) ⟨.bl _, H, I, rfl, q⟩
theorem op_neX (hu : X.A.units + 64 < cLine) : OpR X (compareOp .NotEq) (rDD X.K (fun _ _ => true) fun d e => !PyData.eqv d e) := by
  intro pins s σ H x y v u Q I rx ry h
  obtain ⟨d, e, hd, he, sd, se, _, q⟩ := h
  obtain ⟨as, r1⟩ := Dp.reads I d x v hd rx
  obtain ⟨bs, r2⟩ := Dp.reads I e y u he ry
  exact PySem.SeqAt.ne_plain r1 r2 (shal_p sd).1 (shal_p se).1 (depth_min hu sd) ⟨.bl _, H, I, rfl, q⟩
theorem op_ltX (hu : X.A.units + 64 < cLine) : OpR X (compareOp .Lt) (rOrd X.K (fun i j => decide (i < j)) PySem.W.dataLt) := by
  refine OpR.or op_lt fun pins s σ H x y v u Q I rx ry h => ?_
  obtain ⟨d, e, hd, he, sd, se, c, q⟩ := h
  obtain ⟨as, r1⟩ := Dp.reads I d x v hd rx
  obtain ⟨bs, r2⟩ := Dp.reads I e y u he ry
  exact PySem.W.lt_data r1 r2 (ordOk_p c).2.2.1 (ordOk_p c).2.2.2 (depth_min hu sd) ⟨.bl _, H, I, rfl, q⟩
theorem op_gtX (hu : X.A.units + 64 < cLine) : OpR X (compareOp .Gt) (rOrd X.K (fun i j => decide (j < i)) fun d e => PySem.W.dataLt e d) := by
  refine OpR.or op_gt fun pins s σ H x y v u Q I rx ry h => ?_
  obtain ⟨d, e, hd, he, sd, se, c, q⟩ := h
  obtain ⟨as, r1⟩ := Dp.reads I d x v hd rx
  obtain ⟨bs, r2⟩ := Dp.reads I e y u he ry
  exact PySem.W.gt_data r1 r2 (ordOk_p c).2.2.1 (ordOk_p c).2.2.2 (depth_min hu sd) ⟨.bl _, H, I, rfl, q⟩
theorem op_leX (hu : X.A.units + 64 < cLine) : OpR X (compareOp .LtE) (rOrd X.K (fun i j => decide (i ≤ j)) fun d e => !PySem.W.dataLt e d) := by
  refine OpR.or op_le fun pins s σ H x y v u Q I rx ry h => ?_
  obtain ⟨d, e, hd, he, sd, se, c, q⟩ := h
  obtain ⟨as, r1⟩ := Dp.reads I d x v hd rx
  obtain ⟨bs, r2⟩ := Dp.reads I e y u he ry
  exact PySem.W.le_data r1 r2 (ordOk_p c).2.2.1 (ordOk_p c).2.2.2 (depth_min hu sd) ⟨.bl _, H, I, rfl, q⟩
theorem op_geX (hu : X.A.units + 64 < cLine) : OpR X (compareOp .GtE) (rOrd X.K (fun i j => decide (j ≤ i)) fun d e => !PySem.W.dataLt d e) := by
  refine OpR.or op_ge fun pins s σ H x y v u Q I rx ry h => ?_
  obtain ⟨d, e, hd, he, sd, se, c, q⟩ := h
  obtain ⟨as, r1⟩ := Dp.reads I d x v hd rx
  obtain ⟨bs, r2⟩ := Dp.reads I e y u he ry
  exact PySem.W.ge_data r1 r2 (ordOk_p c).2.2.1 (ordOk_p c).2.2.2 (depth_min hu sd) ⟨.bl _, H, I, rfl, q⟩
theorem shal_list {es : List D} (h : shal (.list es) = true) : PyData.plainAll es = true ∧ PyData.depthAll es ≤ 59 := by
  have := shal_p h
  simp only [PyData.plain, PyData.depth] at this
  exact ⟨this.1, by omega⟩
theorem op_inX (hu : X.A.units + 64 < cLine) : OpR X (compareOp .In) (rInP X.K false) := by
  intro pins s σ H x y v u Q I rx ry h
  obtain ⟨d, es, hd, he, sd, se, q⟩ := h
  obtain ⟨as, r1⟩ := Dp.reads I d x v hd rx
  have hr : X.A.units + 1 + min (PyData.depthAll es) d.depth < cLine := by have := (shal_p sd).2; omega
  rcases he with he | he
  · obtain ⟨bs, r2⟩ := Dp.reads I _ y u he ry
    exact PySem.SeqAt.in_list_data r2 r1 (shal_list se).1 (shal_p sd).1 hr ⟨.bl _, H, I, rfl, q⟩
  · obtain ⟨bs, r2⟩ := Dp.reads I _ y u he ry
    exact PySem.SeqAt.in_tuple_data r2 r1 (shal_list se).1 (shal_p sd).1 hr ⟨.bl _, H, I, rfl, q⟩
theorem op_notInX (hu : X.A.units + 64 < cLine) : OpR X (compareOp .NotIn) (rInP X.K true) := by
  intro pins s σ H x y v u Q I rx ry h
  obtain ⟨d, es, hd, he, sd, se, q⟩ := h
  obtain ⟨as, r1⟩ := Dp.reads I d x v hd rx
  have hr : X.A.units + 1 + min (PyData.depthAll es) d.depth < cLine := by have := (shal_p sd).2; omega
  rcases he with he | he
  · obtain ⟨bs, r2⟩ := Dp.reads I _ y u he ry
    exact PySem.SeqAt.notIn_list_data r2 r1 (shal_list se).1 (shal_p sd).1 hr ⟨.bl _, H, I, rfl, q⟩
  · obtain ⟨bs, r2⟩ := Dp.reads I _ y u he ry
    exact PySem.SeqAt.notIn_tuple_data r2 r1 (shal_list se).1 (shal_p sd).1 hr ⟨.bl _, H, I, rfl, q⟩
theorem op_isX : OpR X (compareOp .Is) (rIsX false) := OpR.or op_isN op_isBl
theorem op_isNotX : OpR X (compareOp .IsNot) (rIsX true) := OpR.or op_notN op_notBl
end
section
variable {X : Cx} {W : WX} {k : Nat} {a b e : Expr} {fa fb : Ev} {pos : Pos}
theorem de_ix {j : Nat} (ha : DE τ X W a fa) (hb : DE τ X W b fb) (hs : PlainIx b := by exact fun _ _ => rfl) : DE τ X W (.Subscript a b pos) (eBin oIx fa fb) := ⟨PE.mono (pe_ix ix_seq ha.r hb.r hs) fun _ _ _ h => re2 ok_ix h⟩
end
def tyN : D → String
  | .none => "NoneType"
  | .bool _ => "bool"
  | .int _ => "int"
  | .str _ => "str"
  | .list _ => "list"
  | .tuple _ => "tuple"
  | .dict _ => "dict"
def isTy : Ty → D → Bool
  | .int, .int _ => true
  | .int, .bool _ => true
  | .bool, .bool _ => true
  | .str, .str _ => true
  | .tup, .tuple _ => true
  | .lst, .list _ => true
  | .dct, .dict _ => true
  | _, _ => false
theorem kit_isTy {K : PySem.W.Frag} (T : Ty) (d : D) : PySem.W.kitOne K (.type (tyN d)) (.type T.name) = some (isTy T d) := by
  cases T <;> cases d <;> (refine kit_ty ?_; dsimp only [tyN, Ty.name, isTy]; decide +kernel)
section
variable {K : PySem.W.Frag} {mg : Str → Option Value} {φ : Nat → Addr} {F : Addr → Prop} {H : Hp} {S : Store} {x y : V} {v u : Vl} {Q : VK} {W : XW} {n : Nat} {m : Bool}
theorem Ob.ty {d : D} (o : Ob K F H x d) : TyX K H x (.type (tyN d)) := by
  cases d with
  | none => cases o; exact .base .non
  | bool b => cases o; exact .base (.bl _)
  | int b => cases o; exact .base (.int _)
  | str b => cases o; exact .base (.str _)
  | list b => obtain ⟨a, xs, rfl, h, _⟩ := o; exact .base (.lst h)
  | tuple b =>
    obtain ⟨a, xs, rfl, h, _⟩ := o
    rcases h with ⟨_, h⟩ | ⟨o, its, n, h1, h2, h3, _⟩
    · exact .base (.tup h)
    · exact .kTuple h1 h2
  | dict b => obtain ⟨a, xs, rfl, h, _⟩ := o; exact .base (.dK h)
theorem reps1 {xs : List V} {v : Vl} (r : RepVs K mg φ F H n xs [v]) : ∃ x, xs = [x] ∧ RepV K mg φ F H n x v := by
  cases xs with
  | nil => exact r.elim
  | cons x xs =>
    cases xs with
    | nil => exact ⟨x, rfl, r.1⟩
    | cons y ys => exact r.2.elim
theorem reps2 {xs : List V} {v u : Vl} (r : RepVs K mg φ F H n xs [v, u]) : ∃ x y, xs = [x, y] ∧ RepV K mg φ F H n x v ∧ RepV K mg φ F H n y u := by
  cases xs with
  | nil => exact r.elim
  | cons x xs =>
    obtain ⟨y, e, h⟩ := reps1 r.2
    exact ⟨x, y, by rw [e], r.1, h⟩
end
def fIsi : Fn := fun vs S => match vs with
  | [v, .ty T] => match view S v with
    | some d => .ok (.d (.bool (isTy T d))) S
    | none => .bad
  | [v, .tys Ts] => match view S v with
    | some d => .ok (.d (.bool (Ts.any fun T => isTy T d))) S
    | none => .bad
  | _ => .bad
theorem kit_any {K : PySem.W.Frag} {d : D} : ∀ Ts : List Ty, PySem.W.kitAny K (.type (tyN d)) (Ts.map fun T => .type T.name) = some (Ts.any fun T => isTy T d)
  | [] => rfl
  | T :: Ts => by
    show PySem.W.kitAny K _ (Value.type T.name :: Ts.map fun T => .type T.name) = _
    unfold PySem.W.kitAny
    rw [kit_isTy, List.any_cons]
    cases e : isTy T d with
    | true => rfl
    | false => exact kit_any Ts
theorem ok_isi {K : PySem.W.Frag} {mg : Str → Option Value} : CallOk τ K mg (fun xs H Q => rIsi K xs H Q ∨ rIsiT K xs H Q) fIsi := by
  intro φ F H S xs vs Q W g r p
  unfold fIsi at p
  split at p
  · rename_i v T
    obtain ⟨x, y, rfl, r1, r2⟩ := reps2 r
    cases e : view S v with
    | none => rw [e] at p; exact p.elim
    | some d =>
      rw [e] at p
      have r2 : y = .ty T.name := r2
      subst r2
      exact .inl ⟨x, _, _, _, _, rfl, .ty _, (ob_of g r1 e).ty, kit_isTy T d, Post.ok g p (.bl _)⟩
  · rename_i v Ts
    obtain ⟨x, y, rfl, r1, r2⟩ := reps2 r
    cases e : view S v with
    | none => rw [e] at p; exact p.elim
    | some d =>
      rw [e] at p
      obtain ⟨a, rfl, h1, h2⟩ := r2
      refine .inr ⟨x, a, _, _, Ts.map fun T => .type T.name, _, rfl, h2, ?_, (ob_of g r1 e).ty, kit_any Ts, Post.ok g p (.bl _)⟩
      clear h2 p e r
      induction Ts with
      | nil => exact .nil
      | cons T Ts ih => exact .cons (.ty _) ih
  · exact p.elim
theorem call_isiX {X : Cx} : CallR X (.builtin "isinstance") (fun xs H Q => rIsi X.K xs H Q ∨ rIsiT X.K xs H Q) := call_isi.or call_isiT
def fLen : Fn := fun vs S => match vs with
  | [v] => match view S v with
    | some (.list xs) => .ok (.d (.int xs.length)) S
    | some (.tuple xs) => .ok (.d (.int xs.length)) S
    | some (.str z) => if z.length ≤ sizeLine then .ok (.d (.int z.length)) S else .bad
    | some (.dict es) => .ok (.d (.int es.length)) S
    | _ => .bad
  | _ => .bad
def fAbs : Fn := fun vs S => match vs with
  | [v] => match view S v with
    | some (.int i) => .ok (.d (.int (if i < 0 then -i else i))) S
    | _ => .bad
  | _ => .bad
def fInt : Fn := fun vs S => match vs with
  | [v] => match view S v with
    | some (.int i) => .ok (.d (.int i)) S
    | some (.bool k) => .ok (.d (.int (if k then 1 else 0))) S
    | _ => .bad
  | _ => .bad
def fMax2 : Fn := fun vs S => match vs with
  | [v, u] => match view S v, view S u with
    | some (.int i), some (.int j) => .ok (.d (.int (if j > i then j else i))) S
    | _, _ => .bad
  | _ => .bad
def fMin2 : Fn := fun vs S => match vs with
  | [v, u] => match view S v, view S u with
    | some (.int i), some (.int j) => .ok (.d (.int (if j < i then j else i))) S
    | _, _ => .bad
  | _ => .bad
section
variable {K : PySem.W.Frag} {mg : Str → Option Value}
theorem ok_abs : CallOk τ K mg (fun xs H Q => ∃ i, xs = [.int i] ∧ Q (.int (if i < 0 then -i else i)) H) fAbs := by
  intro φ F H S xs vs Q W g r p
  unfold fAbs at p
  split at p
  · rename_i v
    obtain ⟨x, rfl, r1⟩ := reps1 r
    cases e : view S v with
    | none => rw [e] at p; exact p.elim
    | some d =>
      rw [e] at p
      have o := ob_of g r1 e
      cases d <;> first | exact p.elim | skip
      exact ⟨_, by rw [show x = _ from o], Post.ok g p (.int _)⟩
  · exact p.elim
theorem ok_int : CallOk τ K mg (fun xs H Q => (∃ i, xs = [.int i] ∧ Q (.int i) H) ∨ ∃ k, xs = [.bl k] ∧ Q (.int (if k then 1 else 0)) H) fInt := by
  intro φ F H S xs vs Q W g r p
  unfold fInt at p
  split at p
  · rename_i v
    obtain ⟨x, rfl, r1⟩ := reps1 r
    cases e : view S v with
    | none => rw [e] at p; exact p.elim
    | some d =>
      rw [e] at p
      have o := ob_of g r1 e
      cases d <;> first | exact p.elim | skip
      · exact .inr ⟨_, by rw [show x = _ from o], Post.ok g p (.int _)⟩
      · exact .inl ⟨_, by rw [show x = _ from o], Post.ok g p (.int _)⟩
  · exact p.elim
theorem ok_max2 : CallOk τ K mg (fun xs H Q => ∃ i j, xs = [.int i, .int j] ∧ Q (.int (if j > i then j else i)) H) fMax2 := by
  intro φ F H S xs vs Q W g r p
  unfold fMax2 at p
  split at p
  · rename_i v u
    obtain ⟨x, y, rfl, r1, r2⟩ := reps2 r
    split at p
    · rename_i i j e1 e2
      exact ⟨i, j, by rw [show x = _ from ob_of g r1 e1, show y = _ from ob_of g r2 e2], Post.ok g p (.int _)⟩
    · exact p.elim
  · exact p.elim
theorem ok_min2 : CallOk τ K mg (fun xs H Q => ∃ i j, xs = [.int i, .int j] ∧ Q (.int (if j < i then j else i)) H) fMin2 := by
  intro φ F H S xs vs Q W g r p
  unfold fMin2 at p
  split at p
  · rename_i v u
    obtain ⟨x, y, rfl, r1, r2⟩ := reps2 r
    split at p
    · rename_i i j e1 e2
      exact ⟨i, j, by rw [show x = _ from ob_of g r1 e1, show y = _ from ob_of g r2 e2], Post.ok g p (.int _)⟩
    · exact p.elim
  · exact p.elim
def rLenX (K : PySem.W.Frag) : List V → Hp → VK → Prop := fun xs H Q => (∃ p ys, xs = [.ref p] ∧ (SqL K H p ys ∨ SqT K H p ys) ∧ Q (.int ys.length) H) ∨ (∃ z, xs = [.str z] ∧ z.length ≤ sizeLine ∧ Q (.int z.length) H) ∨ ∃ a kvs, xs = [V.ref a] ∧ H a = some (.dK kvs) ∧ Q (.int kvs.length) H
theorem ok_len : CallOk τ K mg (rLenX K) fLen := by
  intro φ F H S xs vs Q W g r p
  unfold fLen at p
  split at p
  · rename_i v
    obtain ⟨x, rfl, r1⟩ := reps1 r
    split at p
    · rename_i ds e
      obtain ⟨a, xs, rfl, h1, h2⟩ := ob_of g r1 e
      exact .inl ⟨a, xs, rfl, .inl (.inl (.inl h1)), by rw [h2.len]; exact Post.ok g p (.int _)⟩
    · rename_i ds e
      obtain ⟨a, xs, rfl, h1, h2⟩ := ob_of g r1 e
      exact .inl ⟨a, xs, rfl, .inr h1.sq, by rw [h2.len]; exact Post.ok g p (.int _)⟩
    · rename_i z e
      by_cases hl : z.length ≤ sizeLine
      · rw [if_pos hl] at p
        exact .inr (.inl ⟨z, by rw [show x = _ from ob_of g r1 e], hl, Post.ok g p (.int _)⟩)
      · rw [if_neg hl] at p; exact p.elim
    · rename_i ds e
      obtain ⟨a, xs, rfl, h1, h2⟩ := ob_of g r1 e
      exact .inr (.inr ⟨a, xs, rfl, h1, by rw [h2.len]; exact Post.ok g p (.int _)⟩)
    · exact p.elim
  · exact p.elim
theorem call_lenX {X : Cx} : CallR X (.builtin "len") (rLenX X.K) := call_len_seq.or (call_len_str.or call_lenD)
end
def seqOf : D → Option (List D)
  | .list xs => some xs
  | .tuple xs => some xs
  | _ => none
def rSeq (K : PySem.W.Frag) (c : List D → Prop) (k : List D → List V → Hp → VK → Prop) : List V → Hp → VK → Prop := fun vs H Q => ∃ a xs ds, vs = [.ref a] ∧ (SqL K H a xs ∨ SqT K H a xs) ∧ DpAll K H xs ds ∧ PyData.plainAll ds = true ∧ PyData.depthAll ds ≤ 60 ∧ c ds ∧ k ds xs H Q
def seqOk (ds : List D) : Bool := PyData.plainAll ds && decide (PyData.depthAll ds ≤ 60)
def fSeq (k : List D → Store → Res Vl) : Fn := fun vs S => match vs with
  | [v] => match view S v with
    | some d => match seqOf d with
      | some ds => if seqOk ds = true then k ds S else .bad
      | none => .bad
    | none => .bad
  | _ => .bad
theorem seqOk_p {ds : List D} (h : seqOk ds = true) : PyData.plainAll ds = true ∧ PyData.depthAll ds ≤ 60 := by simpa [seqOk] using h
theorem ok_seq {K : PySem.W.Frag} {mg : Str → Option Value} {c : List D → Prop} {k : List D → List V → Hp → VK → Prop} {o : List D → Store → Res Vl}
    (h : ∀ {φ : Nat → Addr} {F : Addr → Prop} {H : Hp} {S : Store} {xs : List V} {ds : List D} {Q : VK} {W : XW}, SG τ K φ F H S → FzAll K F H xs ds → Post τ K mg W S.length φ F H Q (o ds S) → c ds ∧ k ds xs H Q) : CallOk τ K mg (rSeq K c k) (fSeq o) := by
  intro φ F H S xs vs Q W g r p
  unfold fSeq at p
  split at p
  · rename_i v
    obtain ⟨x, rfl, r1⟩ := reps1 r
    cases e : view S v with
    | none => rw [e] at p; exact p.elim
    | some d =>
      simp only [e] at p
      have ob := ob_of g r1 e
      cases e2 : seqOf d with
      | none => simp only [e2] at p; exact p.elim
      | some ds =>
        simp only [e2] at p
        by_cases hl : seqOk ds = true
        · simp only [hl, if_true] at p
          have hp := seqOk_p hl
          cases d <;> first | (cases e2; skip) | cases e2
          · obtain ⟨a, ys, rfl, h1, h2⟩ := ob
            exact ⟨a, ys, ds, rfl, .inl (.inl (.inl h1)), h2.dp _ _ hp.1, hp.1, hp.2, h g h2 p⟩
          · obtain ⟨a, ys, rfl, h1, h2⟩ := ob
            exact ⟨a, ys, ds, rfl, .inr h1.sq, h2.dp _ _ hp.1, hp.1, hp.2, h g h2 p⟩
        · simp only [hl] at p; exact p.elim
  · exact p.elim
def alikeOk (ds : List D) : Bool := (ds.all fun x => ds.all fun y => PySem.W.alike x y) && ds.all fun x => !isNone x
theorem alikeOk_p {ds : List D} (h : alikeOk ds = true) : PySem.W.AlikeAll ds := by
  simp only [alikeOk, Bool.and_eq_true, List.all_eq_true, Bool.not_eq_true'] at h
  exact ⟨h.1, fun x hx e => by subst e; exact nomatch h.2 _ hx⟩
def fitsB : D → Bool
  | .str x => decide (x.length ≤ sizeLine)
  | .list xs => decide (xs.length ≤ sizeLine)
  | .tuple xs => decide (xs.length ≤ sizeLine)
  | _ => true
theorem fitsB_p {d : D} (h : fitsB d = true) : d.fits63 := by
  cases d with
  | str x =>
    have h' : x.length ≤ sizeLine := of_decide_eq_true h
    rw [sizeLine_eq] at h'
    simp only [PyData.fits63]
    omega
  | list x =>
    have h' : x.length ≤ sizeLine := of_decide_eq_true h
    rw [sizeLine_eq] at h'
    simp only [PyData.fits63]
    omega
  | tuple x =>
    have h' : x.length ≤ sizeLine := of_decide_eq_true h
    rw [sizeLine_eq] at h'
    simp only [PyData.fits63]
    omega
  | _ => trivial
def fAll : Fn := fSeq fun ds S => if ds.all fitsB = true then .ok (.d (.bool (ds.all PyData.truthy))) S else .bad
def fAny : Fn := fSeq fun ds S => if ds.all fitsB = true then .ok (.d (.bool (ds.any PyData.truthy))) S else .bad
def fMin1 : Fn := fSeq fun ds S => match ds with
  | [] => .bad
  | x :: xs => if alikeOk (x :: xs) = true then .ok (.d (PySem.W.minD x xs)) S else .bad
def fMax1 : Fn := fSeq fun ds S => match ds with
  | [] => .bad
  | x :: xs => if alikeOk (x :: xs) = true then .ok (.d (PySem.W.maxD x xs)) S else .bad
def intOf : D → Option Int
  | .int i => some i
  | _ => none
def intsOf : List D → Option (List Int)
  | [] => some []
  | .int i :: ds => (intsOf ds).map (i :: ·)
  | _ :: _ => none
def fSum : Fn := fSeq fun ds S => match intsOf ds with
  | some ns => .ok (.d (.int ns.sum)) S
  | none => .bad
def sortB (ds : List D) : Bool := alikeOk ds && ((ds.all fun d => match d with | .tuple (_ :: _) => true | _ => false) || ds.all fun d => match d with | .tuple _ => false | _ => true)
theorem sortB_p {ds : List D} (h : sortB ds = true) : PySem.W.AllAlike ds ∧ PySem.W.Sortable ds := by
  simp only [sortB, Bool.and_eq_true, Bool.or_eq_true, List.all_eq_true] at h
  obtain ⟨h1, h2⟩ := h
  have a := alikeOk_p h1
  refine ⟨fun d hd e he => a.1 d hd e he, h2.imp (fun h d hd => ?_) fun h d hd => ⟨a.2 d hd, fun xs e => ?_⟩⟩
  · have q := h d hd
    split at q
    · exact ⟨_, _, rfl⟩
    · cases q
  · have q := h d hd
    subst e
    cases q
def sortD (ds : List D) : List D := ds.mergeSort (PySem.W.dataLe false fun d => d)
def fSorted (m : Bool) : Fn := fSeq fun ds S => if (sortB ds && decide (ds.length ≤ sizeLine)) = true then mkL m (sortD ds) S else .bad
def fList (m : Bool) : Fn := fun vs S => match vs with
  | [v] => match view S v with
    | some (.list xs) => mkL m xs S
    | some (.tuple xs) => mkL m xs S
    | _ => .bad
  | _ => .bad
def fTuple : Fn := fun vs S => match vs with
  | [v] => match view S v with
    | some (.list xs) => .ok (.d (.tuple xs)) S
    | some (.tuple xs) => .ok (.d (.tuple xs)) S
    | _ => .bad
  | _ => .bad
section
variable {K : PySem.W.Frag} {mg : Str → Option Value} {F : Addr → Prop} {H : Hp}
theorem ok_allF : CallOk τ K mg (rSeq K (fun ds => ds.all fitsB = true) fun ds _ H Q => Q (.bl (ds.all PyData.truthy)) H) fAll := ok_seq fun {φ F H S xs ds Q W} g f p => by
  by_cases hl : ds.all fitsB = true
  · simp only [hl, if_true] at p
    exact ⟨hl, Post.ok g p (.bl _)⟩
  · simp only [hl] at p; exact p.elim
theorem ok_anyF : CallOk τ K mg (rSeq K (fun ds => ds.all fitsB = true) fun ds _ H Q => Q (.bl (ds.any PyData.truthy)) H) fAny := ok_seq fun {φ F H S xs ds Q W} g f p => by
  by_cases hl : ds.all fitsB = true
  · simp only [hl, if_true] at p
    exact ⟨hl, Post.ok g p (.bl _)⟩
  · simp only [hl] at p; exact p.elim
theorem ok_min1 : CallOk τ K mg (rSeq K (fun ds => ds ≠ [] ∧ alikeOk ds = true) fun ds xs H Q => ∀ (x : D) (r : List D), ds = x :: r → ∀ (i : Nat) (v : V), (xs : List V)[i]? = some v → ds[i]? = some (PySem.W.minD x r) → Q v H) fMin1 := ok_seq fun {φ F H S xs ds Q W} g f p => by
  cases ds with
  | nil => exact p.elim
  | cons x r =>
    by_cases hl : alikeOk (x :: r) = true
    · simp only [hl, if_true] at p
      refine ⟨⟨by simp, hl⟩, fun x' r' e i v h1 h2 => ?_⟩
      cases e
      obtain ⟨w, h3, h4⟩ := f.get h2
      rw [h1] at h3
      cases h3
      exact Post.ok g p h4
    · simp only [hl] at p; exact p.elim
theorem ok_max1 : CallOk τ K mg (rSeq K (fun ds => ds ≠ [] ∧ alikeOk ds = true) fun ds xs H Q => ∀ (x : D) (r : List D), ds = x :: r → ∀ (i : Nat) (v : V), (xs : List V)[i]? = some v → ds[i]? = some (PySem.W.maxD x r) → Q v H) fMax1 := ok_seq fun {φ F H S xs ds Q W} g f p => by
  cases ds with
  | nil => exact p.elim
  | cons x r =>
    by_cases hl : alikeOk (x :: r) = true
    · simp only [hl, if_true] at p
      refine ⟨⟨by simp, hl⟩, fun x' r' e i v h1 h2 => ?_⟩
      cases e
      obtain ⟨w, h3, h4⟩ := f.get h2
      rw [h1] at h3
      cases h3
      exact Post.ok g p h4
    · simp only [hl] at p; exact p.elim
theorem intsOf_fz : ∀ {ds : List D} {ns : List Int} {xs : List V}, intsOf ds = some ns → FzAll K F H xs ds → xs = ns.map V.int
  | [], ns, xs, e, h => by cases e; cases h; rfl
  | d :: ds, ns, xs, e, h => by
    cases d <;> first | cases e | skip
    rename_i i
    cases q : intsOf ds with
    | none => simp [intsOf, q] at e
    | some ms =>
      simp [intsOf, q] at e
      subst e
      cases h with
      | cons h1 h2 =>
        cases h1
        rw [intsOf_fz q h2]
        rfl
theorem ok_sumF : CallOk τ K mg (rSeq K (fun _ => True) fun ds xs H Q => ∃ ns : List Int, xs = ns.map V.int ∧ Q (.int ns.sum) H) fSum := ok_seq fun {φ F H S xs ds Q W} g f p => by
  cases e : intsOf ds with
  | none => simp only [e] at p; exact p.elim
  | some ns =>
    simp only [e] at p
    exact ⟨trivial, ns, intsOf_fz e f, Post.ok g p (.int _)⟩
theorem ok_list {m : Bool} : CallOk τ K mg (fun xs H Q => ∃ p ys, xs = [.ref p] ∧ (SqL K H p ys ∨ SqT K H p ys) ∧ ∀ l, H l = none → Q (.ref l) (upd H l (.lst ys))) (fList m) := by
  intro φ F H S xs vs Q W g r p
  unfold fList at p
  split at p
  · rename_i v
    obtain ⟨x, rfl, r1⟩ := reps1 r
    split at p
    · rename_i ds e
      obtain ⟨a, xs, rfl, h1, h2⟩ := ob_of g r1 e
      exact ⟨a, xs, rfl, .inl (.inl (.inl h1)), Post.newL g h2 p⟩
    · rename_i ds e
      obtain ⟨a, xs, rfl, h1, h2⟩ := ob_of g r1 e
      exact ⟨a, xs, rfl, .inr h1.sq, Post.newL g h2 p⟩
    · exact p.elim
  · exact p.elim
theorem ok_tuple : CallOk τ K mg (fun xs H Q => ∃ p ys, xs = [.ref p] ∧ ((SqL K H p ys ∧ ∀ l, H l = none → Q (.ref l) (upd H l (.tup ys))) ∨ (SqT K H p ys ∧ Q (.ref p) H))) fTuple := by
  intro φ F H S xs vs Q W g r p
  unfold fTuple at p
  split at p
  · rename_i v
    obtain ⟨x, rfl, r1⟩ := reps1 r
    split at p
    · rename_i ds e
      obtain ⟨a, xs, rfl, h1, h2⟩ := ob_of g r1 e
      exact ⟨a, xs, rfl, .inl ⟨.inl (.inl h1), Post.newT g h2 p⟩⟩
    · rename_i ds e
      obtain ⟨a, xs, rfl, h1, h2⟩ := ob_of g r1 e
      exact ⟨a, xs, rfl, .inr ⟨h1.sq, Post.ok g p (.tup h1 h2)⟩⟩
    · exact p.elim
  · exact p.elim
theorem ok_sorted {m : Bool} : CallOk τ K mg (rSeq K (fun ds => sortB ds = true ∧ ds.length ≤ sizeLine) fun ds xs H Q => ∀ ps : List (V × D), ps.Perm (xs.zip ds) → ps.map (·.2) = sortD ds → ∀ l, H l = none → Q (.ref l) (upd H l (.lst (ps.map (·.1))))) (fSorted m) := ok_seq fun {φ F H S xs ds Q W} g f p => by
  by_cases hl : (sortB ds && decide (ds.length ≤ sizeLine)) = true
  · simp only [hl, if_true] at p
    have h2 : sortB ds = true ∧ ds.length ≤ sizeLine := by simpa using hl
    refine ⟨h2, fun ps hp he l hl => ?_⟩
    have all : ∀ q ∈ ps, Fz K F H q.1 q.2 := fun q hq => by
      have hz := hp.mem_iff.mp hq
      obtain ⟨i, hi⟩ := List.mem_iff_getElem?.mp hz
      rw [List.getElem?_zip_eq_some] at hi
      obtain ⟨v, h3, h4⟩ := f.get hi.2
      rw [hi.1] at h3
      cases h3
      exact h4
    have fa : ∀ qs : List (V × D), (∀ q ∈ qs, Fz K F H q.1 q.2) → FzAll K F H (qs.map (·.1)) (qs.map (·.2)) := fun qs => by
      induction qs with
      | nil => intro _; exact .nil
      | cons q qs ih => intro h; exact .cons (h q List.mem_cons_self) (ih fun r hr => h r (List.mem_cons_of_mem _ hr))
    have fz := fa ps all
    rw [he] at fz
    exact Post.newL g fz p l hl
  · simp only [hl] at p; exact p.elim
end
section
variable {X : Cx}
theorem seq_reads {pins : List (Addr × Obj)} {σ : L2.St} {H : Hp} {s : Shared} {a : Addr} {xs : List V} {ds : List D} (I : Inv X pins σ H s) (hq : SqL X.K H a xs ∨ SqT X.K H a xs) (hd : DpAll X.K H xs ds) :
    ∃ (its : List Value) (as : List Addr), Vals xs its ∧ ReadsAll s.heap its ds as ∧ xs.length ≤ sizeLine ∧ ((SqL X.K H a xs ∧ s.heap.IsList a its.toArray) ∨ (SqT X.K H a xs ∧ s.heap.IsTuple a its.toArray)) := by
  rcases hq with hq | hq
  · obtain ⟨its, r, p, hz⟩ := I.list hq
    obtain ⟨as, h⟩ := Dp.readsAll I ds _ its hd r
    exact ⟨its, as, r, h, hz, .inl ⟨hq, p.isList⟩⟩
  · obtain ⟨its, r, p, hz⟩ := I.tuple hq
    obtain ⟨as, h⟩ := Dp.readsAll I ds _ its hd r
    exact ⟨its, as, r, h, hz, .inr ⟨hq, show s.heap.IsTuple a its.toArray from p⟩⟩
theorem all_fits {ds : List D} (h : ds.all fitsB = true) : ∀ x ∈ ds, x.fits63 := fun x hx => fitsB_p (List.all_eq_true.mp h x hx)
theorem call_allX (hc : X.calm = true) : CallR X (.builtin "all") (rSeq X.K (fun ds => ds.all fitsB = true) fun ds _ H Q => Q (.bl (ds.all PyData.truthy)) H) := by
  intro pins s σ H xs us Q I r h
  obtain ⟨a, ys, ds, rfl, hq, hd, hp, hdp, c, q⟩ := h
  obtain ⟨u, rfl, ru⟩ := vals1 r
  cases ru
  obtain ⟨its, as, rv, rd, _, h | h⟩ := seq_reads I hq hd
  · exact PySem.W.all_list_data (I.ok.hd hc) h.2 (by simpa using rd) hp (all_fits c) fun h' tk hk => ⟨.bl _, H, I.kept hk, rfl, q⟩
  · exact PySem.W.all_tuple_data (I.ok.hd hc) h.2 (by simpa using rd) hp (all_fits c) fun h' tk hk => ⟨.bl _, H, I.kept hk, rfl, q⟩
theorem call_anyX (hc : X.calm = true) : CallR X (.builtin "any") (rSeq X.K (fun ds => ds.all fitsB = true) fun ds _ H Q => Q (.bl (ds.any PyData.truthy)) H) := by
  intro pins s σ H xs us Q I r h
  obtain ⟨a, ys, ds, rfl, hq, hd, hp, hdp, c, q⟩ := h
  obtain ⟨u, rfl, ru⟩ := vals1 r
  cases ru
  obtain ⟨its, as, rv, rd, _, h | h⟩ := seq_reads I hq hd
  · exact PySem.W.any_list_data (I.ok.hd hc) h.2 (by simpa using rd) hp (all_fits c) fun h' tk hk => ⟨.bl _, H, I.kept hk, rfl, q⟩
  · exact PySem.W.any_tuple_data (I.ok.hd hc) h.2 (by simpa using rd) hp (all_fits c) fun h' tk hk => ⟨.bl _, H, I.kept hk, rfl, q⟩
theorem item_of {h h' : Heap} {its : List Value} {ys : List V} {ds : List D} {as bs : List Addr} {i : Nat} {v : Value} {d : D} (rv : Vals ys its) (rd : ReadsAll h its ds as) (hp : PyData.plainAll ds = true) (hi : its[i]? = some v) (k : ∀ b o, h.get? b = some o → h'.get? b = some o) (r : Reads h' v d bs) :
    ∃ y, ys[i]? = some y ∧ RelV y v ∧ ds[i]? = some d := by
  have hl : i < its.length := (List.getElem?_eq_some_iff.mp hi).1
  have hly : i < ys.length := by rw [rv.length]; exact hl
  obtain ⟨u, h1, h2⟩ := rv.get (List.getElem?_eq_getElem hly)
  rw [hi] at h1
  cases h1
  obtain ⟨cs, h3, h4, h5, _⟩ := PySem.W.readsAll_at rd i v hi
  refine ⟨ys[i], List.getElem?_eq_getElem hly, h2, ?_⟩
  have pl := PySem.W.plain_mem hp h5
  rw [← SeqAt.plain_unique _ d v cs bs pl (PySem.W.reads_keeps k h3) r, List.getD_eq_getElem?_getD, List.getElem?_eq_getElem h4]
  rfl
theorem call_min1X (hc : X.calm = true) (hu : X.A.units + 64 < cLine) : CallR X (.builtin "min") (rSeq X.K (fun ds => ds ≠ [] ∧ alikeOk ds = true) fun ds xs H Q => ∀ (x : D) (r : List D), ds = x :: r → ∀ (i : Nat) (v : V), (xs : List V)[i]? = some v → ds[i]? = some (PySem.W.minD x r) → Q v H) := by
  intro pins s σ H xs us Q I r h
  obtain ⟨a, ys, ds, rfl, hq, hd, hp, hdp, ⟨hne, hal⟩, q⟩ := h
  obtain ⟨u, rfl, ru⟩ := vals1 r
  cases ru
  cases ds with
  | nil => exact absurd rfl hne
  | cons x xs =>
    obtain ⟨its, as, rv, rd, _, h⟩ := seq_reads I hq hd
    have fin : ∀ (i : Nat) (v : Value) (h' : Heap) (tk : Nat) (bs : List Addr), its.toArray[i]? = some v → Reads h' v (PySem.W.minD x xs) bs → (∀ b o, s.heap.get? b = some o → h'.get? b = some o) → EP X pins σ Q v { s with heap := h', toks := tk } := fun i v h' tk bs hi hr hk => by
      obtain ⟨y, h1, h2, h3⟩ := item_of rv rd hp (by simpa using hi) hk hr
      exact ⟨y, H, I.kept hk, h2, q x xs rfl i y h1 h3⟩
    rcases h with h | h
    · exact PySem.W.min_list_data (I.ok.hd hc) h.2 (by simpa using rd) (alikeOk_p hal) (by omega) fin
    · exact PySem.W.min_tuple_data (I.ok.hd hc) h.2 (by simpa using rd) (alikeOk_p hal) (by omega) fin
theorem call_max1X (hc : X.calm = true) (hu : X.A.units + 64 < cLine) : CallR X (.builtin "max") (rSeq X.K (fun ds => ds ≠ [] ∧ alikeOk ds = true) fun ds xs H Q => ∀ (x : D) (r : List D), ds = x :: r → ∀ (i : Nat) (v : V), (xs : List V)[i]? = some v → ds[i]? = some (PySem.W.maxD x r) → Q v H) := by
  intro pins s σ H xs us Q I r h
  obtain ⟨a, ys, ds, rfl, hq, hd, hp, hdp, ⟨hne, hal⟩, q⟩ := h
  obtain ⟨u, rfl, ru⟩ := vals1 r
  cases ru
  cases ds with
  | nil => exact absurd rfl hne
  | cons x xs =>
    obtain ⟨its, as, rv, rd, _, h⟩ := seq_reads I hq hd
    have fin : ∀ (i : Nat) (v : Value) (h' : Heap) (tk : Nat) (bs : List Addr), its.toArray[i]? = some v → Reads h' v (PySem.W.maxD x xs) bs → (∀ b o, s.heap.get? b = some o → h'.get? b = some o) → EP X pins σ Q v { s with heap := h', toks := tk } := fun i v h' tk bs hi hr hk => by
      obtain ⟨y, h1, h2, h3⟩ := item_of rv rd hp (by simpa using hi) hk hr
      exact ⟨y, H, I.kept hk, h2, q x xs rfl i y h1 h3⟩
    rcases h with h | h
    · exact PySem.W.max_list_data (I.ok.hd hc) h.2 (by simpa using rd) (alikeOk_p hal) (by omega) fin
    · exact PySem.W.max_tuple_data (I.ok.hd hc) h.2 (by simpa using rd) (alikeOk_p hal) (by omega) fin
end
def Res.st {α : Type} (r : Res α) (ρ : Env) (k : α → Store → SRes) : SRes := match r with
  | .ok a S => k a S
  | .ex e S => .ex e ρ S
  | .bad => .bad
@[simp] theorem st_ok {α : Type} (a : α) (S : Store) (ρ : Env) (k : α → Store → SRes) : (Res.ok a S).st ρ k = k a S := rfl
@[simp] theorem st_ex {α : Type} (e : Xn) (S : Store) (ρ : Env) (k : α → Store → SRes) : (Res.ex e S : Res α).st ρ k = .ex e ρ S := rfl
@[simp] theorem st_bad {α : Type} (ρ : Env) (k : α → Store → SRes) : (Res.bad : Res α).st ρ k = .bad := rfl
def SRes.seq (r : SRes) (k : Sv) : SRes := match r with
  | .nx ρ S => k ρ S
  | r => r
@[simp] theorem seq_nx (ρ : Env) (S : Store) (k : Sv) : (SRes.nx ρ S).seq k = k ρ S := rfl
@[simp] theorem seq_ret (v : Vl) (S : Store) (k : Sv) : (SRes.ret v S).seq k = .ret v S := rfl
@[simp] theorem seq_bk (ρ : Env) (S : Store) (k : Sv) : (SRes.bk ρ S).seq k = .bk ρ S := rfl
@[simp] theorem seq_ct (ρ : Env) (S : Store) (k : Sv) : (SRes.ct ρ S).seq k = .ct ρ S := rfl
@[simp] theorem seq_ex (e : Xn) (ρ : Env) (S : Store) (k : Sv) : (SRes.ex e ρ S).seq k = .ex e ρ S := rfl
@[simp] theorem seq_bad (k : Sv) : SRes.bad.seq k = .bad := rfl
abbrev Tg := Vl → Env → Option Env
def gN (i : Nat) : Tg := fun v ρ => some (ρ.set i (some v))
def gAll : List Tg → List Vl → Env → Option Env
  | [], [], ρ => some ρ
  | g :: gs, v :: vs, ρ => match g v ρ with
    | some ρ1 => gAll gs vs ρ1
    | none => none
  | _, _, _ => none
def gT (gs : List Tg) : Tg := fun v ρ => match v with
  | .d (.tuple ds) => gAll gs (ds.map Vl.d) ρ
  | _ => none
def sNil : Sv := fun ρ S => .nx ρ S
def sCons (a b : Sv) : Sv := fun ρ S => (a ρ S).seq b
def sExpr (f : Ev) : Sv := fun ρ S => (f ρ S).st ρ fun _ S1 => .nx ρ S1
def sAsg (g : Tg) (f : Ev) : Sv := fun ρ S => (f ρ S).st ρ fun v S1 => match g v ρ with
  | some ρ1 => .nx ρ1 S1
  | none => .bad
def sSet (i : Nat) (f : Ev) : Sv := fun ρ S => (f ρ S).st ρ fun v S1 => .nx (ρ.set i (some v)) S1
def sPar (gs : List Tg) (f : Av) : Sv := fun ρ S => (f ρ S).st ρ fun vs S1 => match gAll gs vs ρ with
  | some ρ1 => .nx ρ1 S1
  | none => .bad
def sRet (f : Ev) : Sv := fun ρ S => (f ρ S).st ρ fun v S1 => .ret v S1
def sRetN : Sv := fun _ S => .ret (.d .none) S
def sIf (c : Tv) (a b : Sv) : Sv := fun ρ S => (c ρ S).st ρ fun x S1 => if x = true then a ρ S1 else b ρ S1
def sAug (i : Nat) (o : Vl → Vl → Store → Res Vl) (f : Ev) : Sv := fun ρ S => match ρ[i]? with
  | some (some x) => (f ρ S).st ρ fun y S1 => (o x y S1).st ρ fun z S2 => .nx (ρ.set i (some z)) S2
  | _ => .bad
def sPut (fo fi fe : Ev) : Sv := fun ρ S => (fe ρ S).st ρ fun v S1 => (fr v S1).st ρ fun d S2 => (fo ρ S2).st ρ fun o S3 => (fi ρ S3).st ρ fun i S4 => match o, view S4 i with
  | .loc n, some (.int k) => match S4[n]? with
    | some (.lst xs) => match ixN xs.length k with
      | some j => .nx ρ (S4.set n (.lst (xs.set j d)))
      | none => .bad
    | _ => .bad
  | _, _ => .bad
def sBreak : Sv := fun ρ S => .bk ρ S
def sCont : Sv := fun ρ S => .ct ρ S
abbrev Iv := Env → Store → Res (List D)
def forL (g : Tg) (b : Sv) : List D → Env → Store → SRes
  | [], ρ, S => .nx ρ S
  | x :: xs, ρ, S => match g (.d x) ρ with
    | none => .bad
    | some ρ1 => match b ρ1 S with
      | .nx ρ2 S2 => forL g b xs ρ2 S2
      | .ct ρ2 S2 => forL g b xs ρ2 S2
      | .bk ρ2 S2 => .nx ρ2 S2
      | r => r
def sFor (it : Iv) (g : Tg) (b : Sv) : Sv := fun ρ S => (it ρ S).st ρ fun xs S1 => forL g b xs ρ S1
def whN (c : Tv) (b : Sv) : Nat → Env → Store → Option SRes
  | 0, _, _ => none
  | n + 1, ρ, S => match c ρ S with
    | .ok true S1 => match b ρ S1 with
      | .nx ρ2 S2 => whN c b n ρ2 S2
      | .ct ρ2 S2 => whN c b n ρ2 S2
      | .bk ρ2 S2 => some (.nx ρ2 S2)
      | r => some r
    | .ok false S1 => some (.nx ρ S1)
    | .ex e S1 => some (.ex e ρ S1)
    | .bad => some .bad
open Classical in
noncomputable def sWhile (c : Tv) (b : Sv) : Sv := fun ρ S => if h : ∃ n r, whN c b n ρ S = some r then Classical.choose (Classical.choose_spec h) else .bad
theorem whN_mono {c : Tv} {b : Sv} : ∀ {n m : Nat} {ρ : Env} {S : Store} {r : SRes}, whN c b n ρ S = some r → n ≤ m → whN c b m ρ S = some r
  | 0, _, _, _, _, h, _ => by simp [whN] at h
  | n + 1, 0, _, _, _, _, h => by omega
  | n + 1, m + 1, ρ, S, r, h, hm => by
    have hm : n ≤ m := by omega
    unfold whN at h ⊢
    cases e : c ρ S with
    | ok t S1 =>
      simp only [e] at h ⊢
      cases t with
      | false => exact h
      | true =>
        cases e2 : b ρ S1 with
        | nx ρ2 S2 => simp only [e2] at h ⊢; exact whN_mono h hm
        | ct ρ2 S2 => simp only [e2] at h ⊢; exact whN_mono h hm
        | bk ρ2 S2 => simp only [e2] at h ⊢; exact h
        | ret v S2 => simp only [e2] at h ⊢; exact h
        | ex v ρ2 S2 => simp only [e2] at h ⊢; exact h
        | bad => simp only [e2] at h ⊢; exact h
    | ex x S1 => simp only [e] at h ⊢; exact h
    | bad => simp only [e] at h ⊢; exact h
theorem sWhile_of {c : Tv} {b : Sv} {n : Nat} {ρ : Env} {S : Store} {r : SRes} (h : whN c b n ρ S = some r) : sWhile c b ρ S = r := by
  have ex : ∃ n r, whN c b n ρ S = some r := ⟨n, r, h⟩
  unfold sWhile
  rw [dif_pos ex]
  have q := Classical.choose_spec (Classical.choose_spec ex)
  have a := whN_mono q (Nat.le_max_left (Classical.choose ex) n)
  have b := whN_mono h (Nat.le_max_right (Classical.choose ex) n)
  rw [a] at b
  exact Option.some.inj b
theorem sWhile_ex {c : Tv} {b : Sv} {ρ : Env} {S : Store} (h : sWhile c b ρ S ≠ .bad) : ∃ n, whN c b n ρ S = some (sWhile c b ρ S) := by
  by_cases ex : ∃ n r, whN c b n ρ S = some r
  · obtain ⟨n, r, e⟩ := ex
    exact ⟨n, by rw [sWhile_of e]; exact e⟩
  · exact absurd (by unfold sWhile; rw [dif_neg ex]) h
theorem sWhile_eq (c : Tv) (b : Sv) (ρ : Env) (S : Store) : sWhile c b ρ S = match c ρ S with
    | .ok true S1 => match b ρ S1 with
      | .nx ρ2 S2 => sWhile c b ρ2 S2
      | .ct ρ2 S2 => sWhile c b ρ2 S2
      | .bk ρ2 S2 => .nx ρ2 S2
      | r => r
    | .ok false S1 => .nx ρ S1
    | .ex e S1 => .ex e ρ S1
    | .bad => .bad := by
  cases e : c ρ S with
  | ok t S1 =>
    cases t with
    | false => exact sWhile_of (n := 1) (by simp [whN, e])
    | true =>
      cases e2 : b ρ S1 with
      | nx ρ2 S2 =>
        simp only [e2]
        by_cases ex : ∃ n r, whN c b n ρ2 S2 = some r
        · obtain ⟨n, r, h⟩ := ex
          rw [sWhile_of h]
          exact sWhile_of (n := n + 1) (by simp only [whN, e, e2]; exact h)
        · have n1 : sWhile c b ρ2 S2 = .bad := by unfold sWhile; rw [dif_neg ex]
          rw [n1]
          have : ¬ ∃ n r, whN c b n ρ S = some r := fun ⟨n, r, h⟩ => by
            cases n with
            | zero => simp [whN] at h
            | succ n => simp only [whN, e, e2] at h; exact ex ⟨n, r, h⟩
          unfold sWhile
          rw [dif_neg this]
      | ct ρ2 S2 =>
        simp only [e2]
        by_cases ex : ∃ n r, whN c b n ρ2 S2 = some r
        · obtain ⟨n, r, h⟩ := ex
          rw [sWhile_of h]
          exact sWhile_of (n := n + 1) (by simp only [whN, e, e2]; exact h)
        · have n1 : sWhile c b ρ2 S2 = .bad := by unfold sWhile; rw [dif_neg ex]
          rw [n1]
          have : ¬ ∃ n r, whN c b n ρ S = some r := fun ⟨n, r, h⟩ => by
            cases n with
            | zero => simp [whN] at h
            | succ n => simp only [whN, e, e2] at h; exact ex ⟨n, r, h⟩
          unfold sWhile
          rw [dif_neg this]
      | bk ρ2 S2 => exact sWhile_of (n := 1) (by simp [whN, e, e2])
      | ret v S2 => exact sWhile_of (n := 1) (by simp [whN, e, e2])
      | ex v ρ2 S2 => exact sWhile_of (n := 1) (by simp [whN, e, e2])
      | bad => exact sWhile_of (n := 1) (by simp [whN, e, e2])
  | ex x S1 => exact sWhile_of (n := 1) (by simp [whN, e])
  | bad => exact sWhile_of (n := 1) (by simp [whN, e])
def leave (n : Nat) (v : Vl) (S : Store) : Res Vl := match v with
  | .loc i => if i < n then .ok (.loc i) (S.take n) else match S[i]? with
    | some o => .ok (.loc n) (S.take n ++ [o])
    | none => .bad
  | .lam _ => .bad
  | v => .ok v (S.take n)
def fnOf (slots : Nat) (b : Sv) : Fn := fun vs S => match b (vs.map some ++ List.replicate (slots - vs.length) none) S with
  | .ret v S1 => leave S.length v S1
  | .nx _ S1 => .ok (.d .none) (S1.take S.length)
  | .ex e _ S1 => .ex e (S1.take S.length)
  | _ => .bad
section
variable {K : PySem.W.Frag} {mg : Str → Option Value} {φ φ' φ1 φ2 : Nat → Addr} {F F' F1 F2 : Addr → Prop} {H H' H1 H2 : Hp} {n n' m : Nat} {S S' S1 : Store}
theorem PostS.st {α β : Type} {R : (Nat → Addr) → (Addr → Prop) → Hp → Nat → β → α → Prop} {W : WX} {E : Ends} {r : Res α} {ρ : Env} {σ : L2.St} {k : α → Store → SRes} {Q : β → Hp → Prop} (g : SG τ K φ F H S) (sl : Slots K mg φ F H S.length σ ρ) (p : PostS τ K mg W S.length φ F H E (r.st ρ k))
    (h : ∀ φ1 F1 H1 S1 v x, Now τ K S.length φ F H φ1 F1 H1 S1 → R φ1 F1 H1 S1.length x v → PostS τ K mg W S1.length φ1 F1 H1 E (k v S1) → Q x H1) : PostG τ K mg R (fun c od H' => W c od σ H') S.length φ F H Q r := by
  cases r with
  | ok v S' => exact fun φ' F' H' nw x rx => h _ _ _ _ _ _ nw rx (PostS.start g nw p)
  | ex x S' => exact fun φ' F' H' nw c od rx => p φ' F' H' nw c od rx σ (sl.now nw)
  | bad => exact p
theorem PostS.seq {W : WX} {E : Ends} {r : SRes} {k : Sv} (g : SG τ K φ F H S) (p : PostS τ K mg W S.length φ F H E (r.seq k)) : PostS τ K mg W S.length φ F H { E with nx := RS τ K mg W k E } r := by
  cases r with
  | nx ρ S' => exact fun φ' F' H' nw σ' sl => ⟨φ', F', ρ, S', nw.sg, sl, PostS.start g nw p⟩
  | ret v S' => exact p
  | bk ρ S' => exact p
  | ct ρ S' => exact p
  | ex e ρ S' => exact p
  | bad => exact p
theorem PostS.nx {W : WX} {E : Ends} {ρ : Env} {σ : L2.St} (g : SG τ K φ F H S) (sl : Slots K mg φ F H S.length σ ρ) (p : PostS τ K mg W S.length φ F H E (.nx ρ S)) : E.nx σ H := p φ F H (.refl g) σ sl
theorem PostS.ends {W : WX} {E E' : Ends} {r : SRes} (p : PostS τ K mg W n φ F H E r) (h1 : ∀ σ H, E.nx σ H → E'.nx σ H) (h2 : ∀ v H, E.rt v H → E'.rt v H) (h3 : ∀ σ H, E.bk σ H → E'.bk σ H) (h4 : ∀ σ H, E.ct σ H → E'.ct σ H) : PostS τ K mg W n φ F H E' r := by
  cases r with
  | nx ρ S' => exact fun φ' F' H' nw σ' sl => h1 _ _ (p φ' F' H' nw σ' sl)
  | ret v S' => exact fun φ' F' H' nw σ' sl => h2 _ _ (p φ' F' H' nw σ' sl)
  | bk ρ S' => exact fun φ' F' H' nw σ' sl => h3 _ _ (p φ' F' H' nw σ' sl)
  | ct ρ S' => exact fun φ' F' H' nw σ' sl => h4 _ _ (p φ' F' H' nw σ' sl)
  | ex e ρ S' => exact p
  | bad => exact p
end
def Kept (ws : List Nat) (σ σ1 : L2.St) : Prop := σ1.length = σ.length ∧ ∀ i, i ∉ ws → σ1[i]? = σ[i]?
def RG (τ : Tb) (K : PySem.W.Frag) (mg : Str → Option Value) (g : Tg) (ws : List Nat) : TG := fun v σ H Q => ∃ φ F ρ S x, SG τ K φ F H S ∧ Slots K mg φ F H S.length σ ρ ∧ RepV K mg φ F H S.length v x ∧ match g x ρ with
  | some ρ1 => ∀ σ1 : L2.St, Slots K mg φ F H S.length σ1 ρ1 → Kept ws σ σ1 → Q σ1 H
  | none => False
def RGs (τ : Tb) (K : PySem.W.Frag) (mg : Str → Option Value) (gs : List Tg) (ws : List Nat) : TGs := fun vs σ H Q => ∃ φ F ρ S xs, SG τ K φ F H S ∧ Slots K mg φ F H S.length σ ρ ∧ RepVs K mg φ F H S.length vs xs ∧ match gAll gs xs ρ with
  | some ρ1 => ∀ σ1 : L2.St, Slots K mg φ F H S.length σ1 ρ1 → Kept ws σ σ1 → Q σ1 H
  | none => False
structure DG (τ : Tb) (X : Cx) (tg : Expr) (g : Tg) (ws : List Nat) : Prop where
  r : PG X tg (RG τ X.K X.mg g ws)
structure DGs (τ : Tb) (X : Cx) (tgs : List Expr) (gs : List Tg) (ws : List Nat) : Prop where
  r : PGs X tgs (RGs τ X.K X.mg gs ws)
theorem PG.mono {X : Cx} {e : Expr} {t t' : TG} (h : PG X e t) (m : ∀ v σ H Q, t' v σ H Q → t v σ H Q) : PG X e t' := ⟨fun pins s σ H v u Q I r q => h.run pins s σ H v u Q I r (m _ _ _ _ q)⟩
theorem PGs.mono {X : Cx} {e : List Expr} {t t' : TGs} (h : PGs X e t) (m : ∀ v σ H Q, t' v σ H Q → t v σ H Q) : PGs X e t' := ⟨fun pins s σ H v u Q I r q => h.run pins s σ H v u Q I r (m _ _ _ _ q)⟩
section
variable {X : Cx} {W : WX} {k : Nat} {a b c e tg : Expr} {es rest tgs : List Expr} {fa fb fc f : Ev} {ga gb : Tv} {fs : Av} {pos pos' : Pos} {st : Stmt} {sts body els : List Stmt} {sf sg : Sv} {g : Tg} {gs : List Tg} {ws vs' : List Nat}
theorem dg_name (i : Nat) {x : Str} (hN : X.N.Nodup) (hi : X.N[i]? = some x) (hx : Loc X.env.scope x) (hf : X.fn x = true ∨ X.env.scope.names.lookup x = some .local := by first | exact .inl rfl | exact .inr rfl | assumption) : DG τ X (.Name x pos) (gN i) [i] :=
  ⟨PG.mono (pg_name hN hi hx hf) fun v σ H Q ⟨φ, F, ρ, S, y, g, sl, r, p⟩ => p _ (sl.set r) ⟨List.length_set, fun j hj => List.getElem?_set_ne fun e => hj (by simp [e])⟩⟩
theorem dgs_nil : DGs τ X [] [] [] := ⟨PGs.mono pgs_nil fun vs σ H Q ⟨φ, F, ρ, S, ys, g, sl, r, p⟩ => by
  cases ys with
  | cons y ys => exact p.elim
  | nil =>
    cases vs with
    | cons v vs => exact r.elim
    | nil => exact ⟨rfl, p _ sl ⟨rfl, fun _ _ => rfl⟩⟩⟩
theorem dgs_cons (h1 : DG τ X tg g ws) (h2 : DGs τ X tgs gs vs') (hs : (assignEach (tg :: tgs) X.env).map (·.2) = assign tg X.env :: (assignEach tgs X.env).map (·.2) := by rfl) : DGs τ X (tg :: tgs) (g :: gs) (ws ++ vs') := ⟨PGs.mono (pgs_cons h1.r h2.r hs) fun vs σ H Q ⟨φ, F, ρ, S, ys, sg, sl, r, p⟩ => by
  cases ys with
  | nil => exact p.elim
  | cons y ys =>
    cases vs with
    | nil => exact r.elim
    | cons v vs =>
      refine ⟨v, vs, rfl, φ, F, ρ, S, y, sg, sl, r.1, ?_⟩
      unfold gAll at p
      cases q : g y ρ with
      | none => rw [q] at p; exact p.elim
      | some ρ1 =>
        simp only [q] at p
        refine fun σ1 sl1 n1 => ⟨φ, F, ρ1, S, ys, sg, sl1, r.2, ?_⟩
        cases q2 : gAll gs ys ρ1 with
        | none => rw [q2] at p; exact p.elim
        | some ρ2 =>
          simp only [q2] at p ⊢
          exact fun σ2 sl2 n2 => p σ2 sl2 ⟨n2.1.trans n1.1, fun i hi => (n2.2 i fun h => hi (List.mem_append_right _ h)).trans (n1.2 i fun h => hi (List.mem_append_left _ h))⟩⟩
theorem reps_d {K : PySem.W.Frag} {mg : Str → Option Value} {φ : Nat → Addr} {F : Addr → Prop} {H : Hp} {n : Nat} : ∀ {xs : List V} {ds : List D}, FzAll K F H xs ds → RepVs K mg φ F H n xs (ds.map Vl.d)
  | _, _, .nil => trivial
  | _, _, .cons h t => ⟨h, reps_d t⟩
theorem dg_tup {kk : Nat} {n : Nat} (hc : X.calm = true) (h : DGs τ X tgs gs ws) (hn : (assignEach tgs X.env).length = n := by rfl) (hst : (assignEach tgs X.env).findIdx? (·.1) = none := by rfl) (hl : gs.length = n := by rfl) : DG τ X (.Tuple tgs kk pos) (gT gs) ws := ⟨PG.mono (pg_tup hc h.r hn hst) fun v σ H Q ⟨φ, F, ρ, S, y, sg, sl, r, p⟩ => by
  cases y with
  | d y =>
    cases y with
    | tuple ds =>
      · obtain ⟨a, xs, rfl, h1, h2⟩ := Fz.ob r
        refine ⟨a, xs, rfl, h1.sq, ?_, φ, F, ρ, S, _, sg, sl, reps_d h2, p⟩
        have q : ∀ (gs : List Tg) (vs : List Vl) (ρ : Env), (∃ ρ1, gAll gs vs ρ = some ρ1) → vs.length = gs.length := fun gs => by
          induction gs with
          | nil => intro vs ρ h; cases vs with
            | nil => rfl
            | cons v vs => obtain ⟨_, e⟩ := h; cases e
          | cons g gs ih => intro vs ρ h; cases vs with
            | nil => obtain ⟨_, e⟩ := h; cases e
            | cons v vs =>
              obtain ⟨ρ1, e⟩ := h
              unfold gAll at e
              cases q : g v ρ with
              | none => rw [q] at e; cases e
              | some ρ2 => simp only [q] at e; rw [List.length_cons, List.length_cons, ih vs ρ2 ⟨ρ1, e⟩]
        cases q2 : gAll gs (ds.map Vl.d) ρ with
        | none => simp only [gT, q2] at p
        | some ρ1 =>
          have := q gs _ ρ ⟨ρ1, q2⟩
          rw [List.length_map] at this
          rw [h2.len, this, hl]
    | _ => exact p.elim
  | _ => exact p.elim⟩
theorem db_nil : DB τ X W [] sNil := ⟨PSs.mono pss_nil fun E σ H ⟨φ, F, ρ, S, g, sl, p⟩ => PostS.nx g sl p⟩
theorem db_cons (h1 : DS τ X W st sf) (h2 : DB τ X W sts sg) : DB τ X W (st :: sts) (sCons sf sg) := ⟨PSs.mono (pss_cons h1.r h2.r) fun E σ H ⟨φ, F, ρ, S, g, sl, p⟩ => ⟨φ, F, ρ, S, g, sl, PostS.seq g p⟩⟩
theorem db_one (h1 : DS τ X W st sf) : DB τ X W [st] sf := ⟨PSs.mono (pss_one h1.r) fun _ _ _ q => q⟩
theorem ds_pass : DS τ X W (.Pass pos) sNil := ⟨PS.mono ps_pass fun E σ H ⟨φ, F, ρ, S, g, sl, p⟩ => PostS.nx g sl p⟩
theorem ds_break : DS τ X W (.Break pos) sBreak := ⟨PS.mono ps_break fun E σ H ⟨φ, F, ρ, S, g, sl, p⟩ => p φ F H (.refl g) σ sl⟩
theorem ds_cont : DS τ X W (.Continue pos) sCont := ⟨PS.mono ps_continue fun E σ H ⟨φ, F, ρ, S, g, sl, p⟩ => p φ F H (.refl g) σ sl⟩
theorem ds_expr (h : DE τ X W e f) (hs : swapsWith e none pos.line X.env = pure false := by rfl) : DS τ X W (.Expr e pos) (sExpr f) := ⟨PS.mono (ps_expr h.r hs) fun E σ H ⟨φ, F, ρ, S, g, sl, p⟩ => ⟨φ, F, ρ, S, g, sl, PostS.st g sl p fun φ1 F1 H1 S1 v x nw1 r1 p1 => PostS.nx nw1.sg (sl.now nw1) p1⟩⟩
theorem ds_ret (h : DE τ X W e f) : DS τ X W (.Return (some e) pos) (sRet f) := ⟨PS.mono (ps_ret h.r) fun E σ H ⟨φ, F, ρ, S, g, sl, p⟩ => ⟨φ, F, ρ, S, g, sl, PostS.st g sl p fun φ1 F1 H1 S1 v x nw1 r1 p1 => p1 _ _ _ (.refl nw1.sg) x r1⟩⟩
theorem ds_retN : DS τ X W (.Return none pos) sRetN := ⟨PS.mono ps_retN fun E σ H ⟨φ, F, ρ, S, g, sl, p⟩ => p _ _ _ (.refl g) .non .non⟩
theorem ds_set (i : Nat) {x : Str} (hN : X.N.Nodup) (hi : X.N[i]? = some x) (hx : Loc X.env.scope x) (h : DE τ X W e f) (hs : swapsWith e (some (.Name x pos')) pos.line X.env = pure false := by rfl) (hf : X.fn x = true ∨ X.env.scope.names.lookup x = some .local := by first | exact .inl rfl | exact .inr rfl | assumption) : DS τ X W (.Assign [.Name x pos'] e pos) (sSet i f) :=
  ⟨PS.mono (ps_set hN hi hx h.r hs hf) fun E σ H ⟨φ, F, ρ, S, g, sl, p⟩ => ⟨φ, F, ρ, S, g, sl, PostS.st g sl p fun φ1 F1 H1 S1 v x nw1 r1 p1 => PostS.nx nw1.sg ((sl.now nw1).set r1) p1⟩⟩
theorem ds_asg (h : DE τ X W e f) (hg : DG τ X tg g ws) (hs : swapsWithSole [tg] e pos.line X.env = pure false := by rfl) (hw : swappedStores [tg] e X.env = pure none := by rfl) (h1 : (assignEach [tg] X.env).map (·.2) = [assign tg X.env] := by rfl) : DS τ X W (.Assign [tg] e pos) (sAsg g f) :=
  ⟨PS.mono (ps_asg h.r hg.r hs hw h1) fun E σ H ⟨φ, F, ρ, S, gg, sl, p⟩ => ⟨φ, F, ρ, S, gg, sl, PostS.st gg sl p fun φ1 F1 H1 S1 v x nw1 r1 p1 => ⟨φ1, F1, ρ, S1, v, nw1.sg, sl.now nw1, r1, by
    cases q : g v ρ with
    | none => rw [q] at p1; exact p1.elim
    | some ρ1 =>
      simp only [q] at p1 ⊢
      exact fun σ1 sl1 _ => PostS.nx nw1.sg sl1 p1⟩⟩⟩
theorem ds_parT {n kk k2 : Nat} {pos2 : Pos} (hc : X.calm = true) (h : DA τ X W es fs) (hg : DGs τ X tgs gs ws) (hn : (assignEach tgs X.env).length = n := by rfl) (hst : (assignEach tgs X.env).findIdx? (·.1) = none := by rfl) (hl : gs.length = n := by rfl) (hln : n ≤ 1000 := by decide)
    (hs : swapsWithSole [.Tuple tgs kk pos'] (.Tuple es k2 pos2) pos.line X.env = pure false := by rfl) (hw : swappedStores [.Tuple tgs kk pos'] (.Tuple es k2 pos2) X.env = pure none := by rfl) (h1 : (assignEach [.Tuple tgs kk pos'] X.env).map (·.2) = [assign (.Tuple tgs kk pos') X.env] := by rfl) :
    DS τ X W (.Assign [.Tuple tgs kk pos'] (.Tuple es k2 pos2) pos) (sPar gs fs) := ⟨PS.mono (ps_asg (pe_tup h.r) (pg_tup hc hg.r hn hst) hs hw h1) fun E σ H ⟨φ, F, ρ, S, g, sl, p⟩ => ⟨φ, F, ρ, S, g, sl, PostS.st g sl p fun φ1 F1 H1 S1 vs xs nw1 r1 p1 => by
  have q : ∀ (gs : List Tg) (vs : List Vl) (ρ : Env), (∃ ρ1, gAll gs vs ρ = some ρ1) → vs.length = gs.length := fun gs => by
    induction gs with
    | nil => intro vs ρ h; cases vs with
      | nil => rfl
      | cons v vs => obtain ⟨_, e⟩ := h; cases e
    | cons g gs ih => intro vs ρ h; cases vs with
      | nil => obtain ⟨_, e⟩ := h; cases e
      | cons v vs =>
        obtain ⟨ρ1, e⟩ := h
        unfold gAll at e
        cases q : g v ρ with
        | none => rw [q] at e; cases e
        | some ρ2 => simp only [q] at e; rw [List.length_cons, List.length_cons, ih vs ρ2 ⟨ρ1, e⟩]
  cases q2 : gAll gs vs ρ with
  | none => rw [q2] at p1; exact p1.elim
  | some ρ1 =>
    simp only [q2] at p1
    have lv := q gs vs ρ ⟨ρ1, q2⟩
    have lx : xs.length = n := by rw [r1.len, lv, hl]
    refine ⟨by rw [lx]; exact line1000 hln, fun t ht => ?_⟩
    have nw2 := nw1.sg.fresh (o := .tup xs) ht
    refine ⟨t, xs, rfl, .inl (.inl upd_same), lx, φ1, _, ρ, S1, vs, nw2.sg, (sl.now nw1).now nw2, RepVs.ext nw2.ext nw2.le r1, ?_⟩
    simp only [q2]
    exact fun σ1 sl1 _ => PostS.nx nw2.sg sl1 (PostS.start nw1.sg nw2 p1)⟩⟩
theorem ds_par2 (i j : Nat) {x y : Str} {px py pt pos2 : Pos} {kt k2 : Nat} (hc : X.calm = true) (hN : X.N.Nodup) (hi : X.N[i]? = some x) (hj : X.N[j]? = some y) (hij : i ≠ j) (hx : X.env.scope.names.lookup x = some .local) (hy : X.env.scope.names.lookup y = some .local) (ha : DA τ X W [a, b] fs)
    (hw : swappedStores [.Tuple [.Name x px, .Name y py] kt pt] (.Tuple [a, b] k2 pos2) X.env = pure (some [x, y]) := by rfl) (hs : swapsWithSole [.Tuple [.Name x px, .Name y py] kt pt] (.Tuple [a, b] k2 pos2) pos.line X.env = pure false := by rfl) :
    DS τ X W (.Assign [.Tuple [.Name x px, .Name y py] kt pt] (.Tuple [a, b] k2 pos2) pos) (sPar [gN i, gN j] fs) := ⟨PS.mono (ps_par hc hN hi hj hij hx hy ha.r hw hs) fun E σ H ⟨φ, F, ρ, S, g, sl, p⟩ => ⟨φ, F, ρ, S, g, sl, PostS.st g sl p fun φ1 F1 H1 S1 vs xs nw1 r1 p1 => by
  cases vs with
  | nil => exact p1.elim
  | cons v vs =>
    cases vs with
    | nil => exact p1.elim
    | cons u vs =>
      cases vs with
      | cons _ _ => exact p1.elim
      | nil =>
        obtain ⟨x1, x2, rfl, q1, q2⟩ := reps2 r1
        exact ⟨x1, x2, rfl, PostS.nx nw1.sg (((sl.now nw1).set q1).set q2) p1⟩⟩⟩
theorem ds_par3 (i j l : Nat) {x y z : Str} {px py pz pt pos2 : Pos} {kt k2 : Nat} (hc : X.calm = true) (hN : X.N.Nodup) (hi : X.N[i]? = some x) (hj : X.N[j]? = some y) (hl : X.N[l]? = some z) (hij : i ≠ j) (hil : i ≠ l) (hjl : j ≠ l) (hx : X.env.scope.names.lookup x = some .local) (hy : X.env.scope.names.lookup y = some .local)
    (hz : X.env.scope.names.lookup z = some .local) (ha : DA τ X W [a, b, c] fs) (hw : swappedStores [.Tuple [.Name x px, .Name y py, .Name z pz] kt pt] (.Tuple [a, b, c] k2 pos2) X.env = pure (some [x, y, z]) := by rfl)
    (hs : swapsWithSole [.Tuple [.Name x px, .Name y py, .Name z pz] kt pt] (.Tuple [a, b, c] k2 pos2) pos.line X.env = pure false := by rfl) :
    DS τ X W (.Assign [.Tuple [.Name x px, .Name y py, .Name z pz] kt pt] (.Tuple [a, b, c] k2 pos2) pos) (sPar [gN i, gN j, gN l] fs) := ⟨PS.mono (ps_par3 hc hN hi hj hl hij hil hjl hx hy hz ha.r hw hs) fun E σ H ⟨φ, F, ρ, S, g, sl, p⟩ => ⟨φ, F, ρ, S, g, sl, PostS.st g sl p fun φ1 F1 H1 S1 vs xs nw1 r1 p1 => by
  cases vs with
  | nil => exact p1.elim
  | cons v vs =>
    cases vs with
    | nil => exact p1.elim
    | cons u vs =>
      cases vs with
      | nil => exact p1.elim
      | cons t vs =>
        cases vs with
        | cons _ _ => exact p1.elim
        | nil =>
          cases xs with
          | nil => exact r1.elim
          | cons x0 xs =>
            obtain ⟨x1, x2, rfl, q1, q2⟩ := reps2 r1.2
            exact ⟨x0, x1, x2, rfl, PostS.nx nw1.sg ((((sl.now nw1).set r1.1).set q1).set q2) p1⟩⟩⟩
theorem ds_if (hc : DT τ X W c ga) (ha : DB τ X W body sf) (hb : DB τ X W els sg) : DS τ X W (.If c body els pos) (sIf ga sf sg) := ⟨PS.mono (ps_if hc.r ha.r hb.r) fun E σ H ⟨φ, F, ρ, S, g, sl, p⟩ => ⟨φ, F, ρ, S, g, sl, PostS.st (R := RepB) g sl p fun φ1 F1 H1 S1 v x nw1 r1 p1 => by
  have r1 : x = v := r1
  subst r1
  cases x with
  | true => exact ⟨φ1, F1, ρ, S1, nw1.sg, sl.now nw1, p1⟩
  | false => exact ⟨φ1, F1, ρ, S1, nw1.sg, sl.now nw1, p1⟩⟩⟩
theorem ds_aug (i : Nat) {x : Str} {op : Operator} {o : Vl → Vl → Store → Res Vl} {r : R2} (hN : X.N.Nodup) (hi : X.N[i]? = some x) (hx : Loc X.env.scope x) (h : DE τ X W e f) (ho : OpR X (inplaceOp op) r) (ok : OpOk τ X.K X.mg r o) (hf : X.fn x = true ∨ X.env.scope.names.lookup x = some .local := by first | exact .inl rfl | exact .inr rfl | assumption) :
    DS τ X W (.AugAssign (.Name x pos') op e pos) (sAug i o f) := ⟨PS.mono (ps_aug (ti := r) hN hi hx h.r (fun pins s σ H x y v u Q I rx ry q => ho pins s σ H x y v u Q I rx ry q) hf) fun E σ H ⟨φ, F, ρ, S, g, sl, p⟩ => by
  unfold sAug at p
  split at p
  · rename_i v q
    obtain ⟨x, h1, h2⟩ := sl.2 i v q
    refine ⟨x, h1, φ, F, ρ, S, g, sl, PostS.st g sl p fun φ1 F1 H1 S1 u y nw1 r1 p1 => ok nw1.sg (h2.now nw1) r1 (PostS.st (R := RepV X.K X.mg) nw1.sg (sl.now nw1) p1 fun φ2 F2 H2 S2 w z nw2 r2 p2 => PostS.nx nw2.sg (((sl.now nw1).now nw2).set r2) p2)⟩
  · exact p.elim⟩
theorem ds_put {o i : Expr} {fo fi fe : Ev} {p2 : Pos} (ho : DE τ X W o fo) (hi : DE τ X W i fi) (he : DE τ X W e fe) (hs : swapsWithSole [.Subscript o i p2] e pos.line X.env = pure false := by rfl) (hw : swappedStores [.Subscript o i p2] e X.env = pure none := by rfl)
    (h1 : (assignEach [.Subscript o i p2] X.env).map (·.2) = [assign (.Subscript o i p2) X.env] := by rfl) (ha : ∀ v, assign (.Subscript o i p2) X.env v = (do
      let ov ← holding [v] (eval o X.env)
      let iv ← holding [v, ov] (eval i X.env)
      standAt p2
      holding [v, ov, iv] (setItem ov iv v)
      release [v, ov, iv] []) := by intro _; rfl) : DS τ X W (.Assign [.Subscript o i p2] e pos) (sPut fo fi fe) :=
  ⟨PS.mono (ps_asg he.r (pg_sub ho.r hi.r set_list ha) hs hw h1) fun E σ H ⟨φ, F, ρ, S, g, sl, p⟩ => ⟨φ, F, ρ, S, g, sl, PostS.st g sl p fun φ1 F1 H1 S1 v x nw1 r1 p1 => by
    have hne : fr v S1 ≠ .bad := fun e => by rw [e] at p1; exact p1
    obtain ⟨φ2, F2, S2, d, nw2, f2, e2⟩ := fr_ok nw1.sg r1 hne
    rw [e2] at p1
    have p2 := PostS.start nw1.sg nw2 p1
    have sl2 := (sl.now nw1).now nw2
    refine ⟨φ2, F2, ρ, S2, nw2.sg, sl2, PostS.st nw2.sg sl2 p2 fun φ3 F3 H3 S3 ov ox nw3 r3 p3 => ⟨φ3, F3, ρ, S3, nw3.sg, sl2.now nw3, PostS.st nw3.sg (sl2.now nw3) p3 fun φ4 F4 H4 S4 iv ix nw4 r4 p4 => ?_⟩⟩
    split at p4
    · rename_i nn k q
      have r3' := RepV.now nw4 r3
      obtain ⟨hn, rfl⟩ := r3'
      split at p4
      · rename_i xs q2
        split at p4
        · rename_i j q3
          obtain ⟨h1, ys, h2, h3⟩ := nw4.sg.obj nn _ q2
          have f4 : Fz X.K F4 H4 x d := (f2.ext nw3.ext.sub nw3.ext.same).ext nw4.ext.sub nw4.ext.same
          refine ⟨φ4 nn, ys, k, j, rfl, ob_of nw4.sg r4 q, h2, by rw [h3.len]; exact q3, ?_⟩
          have nw5 := nw4.sg.write (o := .lst (ys.set j x)) (mo := .lst (xs.set j d)) q2 rfl fun nf same => ⟨nf, _, upd_same, (h3.set f4 j).ext (fun _ h => h) same⟩
          have sl5 := ((sl2.now nw3).now nw4).now nw5
          exact PostS.nx nw5.sg sl5 (PostS.start nw4.sg nw5 p4)
        · exact p4.elim
      · exact p4.elim
    · exact p4.elim⟩⟩
end
def YI (K : PySem.W.Frag) (F : Addr → Prop) (H H' : Hp) (v : V) (H'' : Hp) (d : D) : Prop :=
  (H'' = H' ∧ Fz K F H v d) ∨ ∃ T vs es, v = .ref T ∧ H' T = none ∧ H'' = upd H' T (.tup vs) ∧ d = .tuple es ∧ FzAll K F H vs es
abbrev Agree (F : Addr → Prop) (H H' : Hp) : Prop := ∀ a, F a → H' a = H a
structure Yl (K : PySem.W.Frag) (F : Addr → Prop) (H : Hp) (J : It) (ds : List D) : Prop where
  goes : ∀ i H', i < ds.length → Agree F H H' → J.go i H'
  stops : ∀ H', Agree F H H' → J.stop ds.length H'
  yields : ∀ i H' v H'', i < ds.length → Agree F H H' → J.yld i H' v H'' → ∃ d, ds[i]? = some d ∧ YI K F H H' v H'' d
theorem Yl.walk {K : PySem.W.Frag} {F : Addr → Prop} {H : Hp} {J : It} {ds : List D} (y : Yl K F H J ds) : Walk J ds.length (Agree F H) (fun i H' v H'' => ∃ d, ds[i]? = some d ∧ YI K F H H' v H'' d) :=
  ⟨fun i H' h g => y.goes i H' h g, fun H' g => y.stops H' g, fun i H' v H'' h g q => y.yields i H' v H'' h g q⟩
abbrev RepY (K : PySem.W.Frag) : (Nat → Addr) → (Addr → Prop) → Hp → Nat → It → List D → Prop := fun _ F H _ J ds => Yl K F H J ds
def RI (τ : Tb) (K : PySem.W.Frag) (mg : Str → Option Value) (W : WX) (f : Iv) : TI := fun σ H R => ∃ φ F ρ S, SG τ K φ F H S ∧ Slots K mg φ F H S.length σ ρ ∧ PostG τ K mg (RepY K) (fun c od H' => W c od σ H') S.length φ F H R (f ρ S)
structure DI (τ : Tb) (X : Cx) (W : WX) (tg it : Expr) (f : Iv) : Prop where
  r : PI X tg it (RI τ X.K X.mg W f)
theorem PI.mono {X : Cx} {tg e : Expr} {t t' : TI} (h : PI X tg e t) (m : ∀ σ H Q, t' σ H Q → t σ H Q) : PI X tg e t' := ⟨fun pins s σ H Q I q => h.run pins s σ H Q I (m _ _ _ q)⟩
def iSeq (f : Ev) : Iv := fun ρ S => (f ρ S).bind fun v S1 => (fr v S1).bind fun d S2 => match seqOf d with
  | some ds => .ok ds S2
  | none => .bad
def rangeD (lo hi : Int) : List D := (List.range (hi - lo).toNat).map fun i => .int (lo + (i : Nat))
def iRange (f : Av) : Iv := fun ρ S => (f ρ S).bind fun vs S1 => match vs with
  | [v] => match view S1 v with
    | some (.int j) => if -(2 ^ 62) ≤ j ∧ j < 2 ^ 62 then .ok (rangeD 0 j) S1 else .bad
    | _ => .bad
  | [v, u] => match view S1 v, view S1 u with
    | some (.int i), some (.int j) => if -(2 ^ 62) ≤ i ∧ i < 2 ^ 62 ∧ -(2 ^ 62) ≤ j ∧ j < 2 ^ 62 then .ok (rangeD i j) S1 else .bad
    | _, _ => .bad
  | _ => .bad
section
variable {X : Cx} {W : WX} {tg l : Expr}
def jSeq (K : PySem.W.Frag) (tl : TE) : TI := fun σ H R => tl σ H fun x H1 => ∃ a, x = .ref a ∧ (((∃ xs, SqL K H1 a xs) ∧ R (Itl K a) H1) ∨ ((∃ xs, SqT K H1 a xs) ∧ R (Itt K a) H1))
theorem pi_seq {tl : TE} (h : PE X l tl) : PI X tg l (jSeq X.K tl) := ⟨fun pins s σ H R I q => thn (h.run pins s σ H _ I q) fun v s1 ⟨x, H1, I1, r1, a, e, q1⟩ => by
  subst e
  cases r1
  have fresh : ∀ b ∈ [s1.heap.objs.size], FpOk X pins H1 b := fun b hb => by
    obtain rfl : b = s1.heap.objs.size := by simpa using hb
    exact I1.fpOk (Nat.le_refl _) (I1.hok.fresh (Nat.le_refl _))
  rcases q1 with ⟨⟨xs, hq⟩, q1⟩ | ⟨⟨xs, hq⟩, q1⟩
  · obtain ⟨its, _, p, _⟩ := I1.list hq
    exact wpAny_pyIter_list p.isList ⟨_, _, _, _, H1, rfl, I1.kept (t' := s1.toks) fun b o e => Heap.get?_push_of_some _ e, turn_list a _, ⟨_, Heap.get?_push_size _ rfl, rfl, rfl⟩, fresh, q1⟩
  · obtain ⟨its, _, p, _⟩ := I1.tuple hq
    exact wpAny_pyIter_tuple (show s1.heap.IsTuple a its.toArray from p) ⟨_, _, _, _, H1, rfl, I1.kept (t' := s1.toks) fun b o e => Heap.get?_push_of_some _ e, turn_tuple a _, ⟨_, Heap.get?_push_size _ rfl, rfl, rfl⟩, fresh, q1⟩⟩
variable {K : PySem.W.Frag} {F : Addr → Prop} {H : Hp} {a b : Addr} {xs ys : List V} {ds es : List D}
theorem yl_list (hf : F a) (h1 : H a = some (.lst xs)) (h2 : FzAll K F H xs ds) : Yl K F H (Itl K a) ds := by
  have at_ : ∀ H', Agree F H H' → SqL K H' a xs := fun H' g => .inl (.inl ((g a hf).trans h1))
  refine ⟨fun i H' hi g => ?_, fun H' g => ⟨xs, at_ H' g, by rw [h2.len]; exact Nat.le_refl _⟩, fun i H' v H'' hi g y => ?_⟩
  · obtain ⟨v, hv, _⟩ := h2.get (List.getElem?_eq_getElem hi)
    exact ⟨xs, v, at_ H' g, hv⟩
  · obtain ⟨v', hv, fv⟩ := h2.get (List.getElem?_eq_getElem hi)
    have e := y.2 xs (at_ H' g)
    rw [hv] at e
    cases e
    exact ⟨ds[i], List.getElem?_eq_getElem hi, .inl ⟨y.1, fv⟩⟩
theorem yl_tup (h1 : FqT K F H a xs) (h2 : FzAll K F H xs ds) : Yl K F H (Itt K a) ds := by
  have at_ : ∀ H', Agree F H H' → SqT K H' a xs := fun H' g => (h1.ext (fun _ h => h) g).sq
  refine ⟨fun i H' hi g => ?_, fun H' g => ⟨xs, at_ H' g, by rw [h2.len]; exact Nat.le_refl _⟩, fun i H' v H'' hi g y => ?_⟩
  · obtain ⟨v, hv, _⟩ := h2.get (List.getElem?_eq_getElem hi)
    exact ⟨xs, v, at_ H' g, hv⟩
  · obtain ⟨v', hv, fv⟩ := h2.get (List.getElem?_eq_getElem hi)
    have e := y.2 xs (at_ H' g)
    rw [hv] at e
    cases e
    exact ⟨ds[i], List.getElem?_eq_getElem hi, .inl ⟨y.1, fv⟩⟩
theorem rangeD_len {lo hi : Int} : (rangeD lo hi).length = (hi - lo).toNat := by simp [rangeD]
theorem yl_range {lo hi : Int} : Yl K F H (Itr lo (hi - lo).toNat) (rangeD lo hi) := by
  refine ⟨fun i H' hi _ => by rw [rangeD_len] at hi; exact hi, fun H' _ => by rw [rangeD_len]; exact Nat.le_refl _, fun i H' v H'' hi _ y => ?_⟩
  rw [rangeD_len] at hi
  exact ⟨.int (lo + (i : Nat)), by simp [rangeD, hi], .inl ⟨y.1, by rw [y.2]; exact .int _⟩⟩
theorem di_seq {f : Ev} (h : DE τ X W l f) : DI τ X W tg l (iSeq f) := ⟨PI.mono (pi_seq h.r) fun σ H Q ⟨φ, F, ρ, S, g, sl, p⟩ => ⟨φ, F, ρ, S, g, sl, PostG.bind g p fun φ1 F1 H1 S1 v x nw1 r1 p1 => by
  have hne : fr v S1 ≠ .bad := fun e => by rw [e] at p1; exact p1
  obtain ⟨φ2, F2, S2, d, nw2, f2, e2⟩ := fr_ok nw1.sg r1 hne
  rw [e2] at p1
  have p2 := PostG.start nw1.sg nw2 p1
  cases d <;> first | exact p2.elim | skip
  · cases f2 with
    | lst h1 h2 h3 => exact ⟨_, rfl, .inl ⟨⟨_, .inl (.inl h2)⟩, p2 _ _ _ (.refl nw2.sg) _ (yl_list h1 h2 h3)⟩⟩
  · cases f2 with
    | tup h1 h2 => exact ⟨_, rfl, .inr ⟨⟨_, h1.sq⟩, p2 _ _ _ (.refl nw2.sg) _ (yl_tup h1 h2)⟩⟩⟩⟩
theorem range_1 {f : Av} {σ : L2.St} {H : Hp} {R : It → Hp → Prop} (h : RI τ X.K X.mg W (iRange f) σ H R) (h1 : ∀ ρ S vs S1, f ρ S = .ok vs S1 → ∃ v, vs = [v]) : iRng1 (RA τ X.K X.mg W f) σ H R := by
  obtain ⟨φ, F, ρ, S, g, sl, p⟩ := h
  refine ⟨φ, F, ρ, S, g, sl, ?_⟩
  unfold iRange at p
  cases e0 : f ρ S with
  | bad => rw [e0] at p; exact p
  | ex e S1 => rw [e0] at p; exact p
  | ok vs S1 =>
    rw [e0] at p
    obtain ⟨v, rfl⟩ := h1 _ _ _ _ e0
    intro φ1 F1 H1 nw1 xs r
    have p1 := PostG.start g nw1 p
    obtain ⟨x, rfl, r1⟩ := reps1 r
    simp only [bind_ok] at p1
    cases e : view S1 v with
    | none => simp only [e] at p1; exact p1.elim
    | some d =>
      simp only [e] at p1
      cases d <;> dsimp only at p1 <;> first | exact p1.elim | skip
      rename_i j
      by_cases hl : -(2 ^ 62) ≤ j ∧ j < 2 ^ 62
      · rw [if_pos hl] at p1
        refine ⟨j, by rw [show x = _ from ob_of nw1.sg r1 e], hl.1, hl.2, ?_⟩
        have y := p1 _ _ _ (.refl nw1.sg) _ (yl_range (K := X.K) (F := F1) (H := H1) (lo := 0) (hi := j))
        rwa [Int.sub_zero] at y
      · rw [if_neg hl] at p1; exact p1.elim
theorem range_2 {f : Av} {σ : L2.St} {H : Hp} {R : It → Hp → Prop} (h : RI τ X.K X.mg W (iRange f) σ H R) (h1 : ∀ ρ S vs S1, f ρ S = .ok vs S1 → ∃ v u, vs = [v, u]) : iRng2 (RA τ X.K X.mg W f) σ H R := by
  obtain ⟨φ, F, ρ, S, g, sl, p⟩ := h
  refine ⟨φ, F, ρ, S, g, sl, ?_⟩
  unfold iRange at p
  cases e0 : f ρ S with
  | bad => rw [e0] at p; exact p
  | ex e S1 => rw [e0] at p; exact p
  | ok vs S1 =>
    rw [e0] at p
    obtain ⟨v, u, rfl⟩ := h1 _ _ _ _ e0
    intro φ1 F1 H1 nw1 xs r
    have p1 := PostG.start g nw1 p
    obtain ⟨x, y, rfl, r1, r2⟩ := reps2 r
    simp only [bind_ok] at p1
    split at p1
    · rename_i i j e1 e2
      by_cases hl : -(2 ^ 62) ≤ i ∧ i < 2 ^ 62 ∧ -(2 ^ 62) ≤ j ∧ j < 2 ^ 62
      · rw [if_pos hl] at p1
        exact ⟨i, j, by rw [show x = _ from ob_of nw1.sg r1 e1, show y = _ from ob_of nw1.sg r2 e2], hl, p1 _ _ _ (.refl nw1.sg) _ yl_range⟩
      · rw [if_neg hl] at p1; exact p1.elim
    · exact p1.elim
theorem cons1 {f : Ev} {ρ : Env} {S S1 : Store} {vs : List Vl} (h : aCons f aNil ρ S = .ok vs S1) : ∃ v, vs = [v] := by
  unfold aCons aNil at h
  cases e : f ρ S with
  | ok v S2 => simp only [e, bind_ok] at h; cases h; exact ⟨v, rfl⟩
  | ex x S2 => simp only [e, bind_ex] at h; cases h
  | bad => simp only [e, bind_bad] at h; cases h
theorem cons2 {f g : Ev} {ρ : Env} {S S1 : Store} {vs : List Vl} (h : aCons f (aCons g aNil) ρ S = .ok vs S1) : ∃ v u, vs = [v, u] := by
  unfold aCons at h
  cases e : f ρ S with
  | ok v S2 =>
    simp only [e, bind_ok] at h
    cases e2 : ((g ρ S2).bind fun v S1 => (aNil ρ S1).bind fun vs S2 => Res.ok (v :: vs) S2) with
    | ok us S3 =>
      simp only [e2, bind_ok] at h
      cases h
      obtain ⟨u, rfl⟩ := cons1 (f := g) e2
      exact ⟨v, u, rfl⟩
    | ex x S2 => simp only [e2, bind_ex] at h; cases h
    | bad => simp only [e2, bind_bad] at h; cases h
  | ex x S2 => simp only [e, bind_ex] at h; cases h
  | bad => simp only [e, bind_bad] at h; cases h
theorem di_range1 {c : Expr} {f : Ev} {p pos : Pos} (hg : Gl X "range") (hm : X.mg "range" = none) (h : DA τ X W [c] (aCons f aNil)) (hs : starEach [c] X.env = [(false, eval c X.env)] := by rfl) : DI τ X W tg (.Call (.Name "range" p) [c] [] pos) (iRange (aCons f aNil)) :=
  ⟨PI.mono (pi_range1 hg hm h.r hs) fun σ H Q q => range_1 q fun _ _ _ _ => cons1⟩
theorem di_range2 {c d : Expr} {f f' : Ev} {p pos : Pos} (hg : Gl X "range") (hm : X.mg "range" = none) (h : DA τ X W [c, d] (aCons f (aCons f' aNil))) (hs : starEach [c, d] X.env = [(false, eval c X.env), (false, eval d X.env)] := by rfl) (hs2 : starEach [d] X.env = [(false, eval d X.env)] := by rfl) :
    DI τ X W tg (.Call (.Name "range" p) [c, d] [] pos) (iRange (aCons f (aCons f' aNil))) := ⟨PI.mono (pi_range2 hg hm h.r hs hs2) fun σ H Q q => range_2 q fun _ _ _ _ => cons2⟩
end
section
variable {X : Cx} {W : WX} {k : Nat} {tg it c : Expr} {body : List Stmt} {pos : Pos} {f : Iv} {g : Tg} {ws : List Nat} {sb : Sv} {gc : Tv}
theorem ds_for {j : Nat} (cc : Cc X W j) (hi : DI τ X W tg it f) (hg : DG τ X tg g ws) (hb : DB τ X W body sb) (hs : ∀ x, foldedSetIterable it X.env x = pure x := by intro _; rfl) : DS τ X W (.For tg it body [] pos) (sFor f g sb) :=
  ⟨PS.mono (ps_for cc.po cc.calm hi.r hg.r hb.r hs) fun E σ H ⟨φ, F, ρ, S, gs, sl, p⟩ => ⟨φ, F, ρ, S, gs, sl, PostS.st (R := RepY X.K) gs sl p fun φ1 F1 H1 S1 ds J nw1 yl p1 => by
    have ag : ∀ {φ2 F2 H2 S2}, Now τ X.K S1.length φ1 F1 H1 φ2 F2 H2 S2 → Agree F1 H1 H2 := fun n a h => n.ext.same a h
    refine for_it yl.walk (fun i σ2 H2 => ∃ φ2 F2 ρ2 S2, Now τ X.K S1.length φ1 F1 H1 φ2 F2 H2 S2 ∧ Slots X.K X.mg φ2 F2 H2 S2.length σ2 ρ2 ∧ PostS τ X.K X.mg W S2.length φ2 F2 H2 E (forL g sb (ds.drop i) ρ2 S2)) ⟨φ1, F1, ρ, S1, .refl nw1.sg, sl.now nw1, p1⟩ (fun i σ2 H2 _ ⟨_, _, _, _, n, _⟩ => ag n) ?_ ?_
    · intro i v σ2 H2 H3 hlt ⟨φ2, F2, ρ2, S2, nw2, sl2, p2⟩ ⟨d, hd, yi⟩
      have hdr : ds.drop i = d :: ds.drop (i + 1) := by
        obtain ⟨h1, h2⟩ := List.getElem?_eq_some_iff.mp hd
        rw [← h2, List.drop_eq_getElem_cons h1]
      rw [hdr] at p2
      -- the item, frozen
      obtain ⟨F3, nw3, fz3⟩ : ∃ F3, Now τ X.K S2.length φ2 F2 H2 φ2 F3 H3 S2 ∧ Fz X.K F3 H3 v d := by
        rcases yi with ⟨rfl, fz⟩ | ⟨T, vs, es, rfl, hT, rfl, rfl, fz⟩
        · exact ⟨F2, .refl nw2.sg, fz.ext nw2.ext.sub nw2.ext.same⟩
        · have nw := nw2.sg.fresh (o := .tup vs) hT
          exact ⟨_, nw, .tup (.inl ⟨.inr rfl, upd_same⟩) ((fz.ext nw2.ext.sub nw2.ext.same).ext nw.ext.sub nw.ext.same)⟩
      have p3 := PostS.start nw2.sg nw3 p2
      have sl3 := sl2.now nw3
      refine ⟨φ2, F3, ρ2, S2, .d d, nw3.sg, sl3, fz3, ?_⟩
      unfold forL at p3
      cases q : g (.d d) ρ2 with
      | none => rw [q] at p3; exact p3.elim
      | some ρ3 =>
        simp only [q] at p3 ⊢
        refine fun σ3 sl4 _ => ⟨φ2, F3, ρ3, S2, nw3.sg, sl4, ?_⟩
        have base := Now.trans nw1.sg nw2 nw3
        cases e : sb ρ3 S2 with
        | nx ρ4 S4 =>
          simp only [e] at p3
          exact fun φ5 F5 H5 nw5 σ5 sl5 => ⟨φ5, F5, ρ4, S4, Now.trans nw1.sg base nw5, sl5, PostS.start nw3.sg nw5 p3⟩
        | ct ρ4 S4 =>
          simp only [e] at p3
          exact fun φ5 F5 H5 nw5 σ5 sl5 => ⟨φ5, F5, ρ4, S4, Now.trans nw1.sg base nw5, sl5, PostS.start nw3.sg nw5 p3⟩
        | bk ρ4 S4 => simp only [e] at p3; exact p3
        | ret v4 S4 => simp only [e] at p3; exact p3
        | ex x4 ρ4 S4 => simp only [e] at p3; exact p3
        | bad => simp only [e] at p3; exact p3
    · intro σ2 H2 ⟨φ2, F2, ρ2, S2, nw2, sl2, p2⟩
      rw [List.drop_length] at p2
      exact PostS.nx nw2.sg sl2 p2⟩⟩
theorem ds_while {j : Nat} (cc : Cc X W j) (hc : DT τ X W c gc) (hb : DB τ X W body sb) : DS τ X W (.While c body [] pos) (sWhile gc sb) :=
  ⟨PS.mono (ps_while cc.po hc.r hb.r) fun E σ H ⟨φ, F, ρ, S, gs, sl, p⟩ => by
    have hne : sWhile gc sb ρ S ≠ .bad := fun e => by rw [e] at p; exact p
    obtain ⟨n, hn⟩ := sWhile_ex hne
    refine ⟨fun m σ2 H2 => ∃ φ2 F2 ρ2 S2 r, SG τ X.K φ2 F2 H2 S2 ∧ Slots X.K X.mg φ2 F2 H2 S2.length σ2 ρ2 ∧ whN gc sb m ρ2 S2 = some r ∧ PostS τ X.K X.mg W S2.length φ2 F2 H2 E r, ⟨n, φ, F, ρ, S, _, gs, sl, hn, p⟩, ?_⟩
    rintro m σ2 H2 ⟨φ2, F2, ρ2, S2, r, gs2, sl2, hm, p2⟩
    cases m with
    | zero => simp [whN] at hm
    | succ m =>
      refine ⟨φ2, F2, ρ2, S2, gs2, sl2, ?_⟩
      unfold whN at hm
      cases e : gc ρ2 S2 with
      | bad => simp only [e] at hm; cases hm; exact p2
      | ex x S3 =>
        simp only [e] at hm
        cases hm
        exact fun φ' F' H' nw c od rx => p2 φ' F' H' nw c od rx σ2 (sl2.now nw)
      | ok t S3 =>
        intro φ3 F3 H3 nw3 b eb
        have eb : b = t := eb
        subst eb
        cases b with
        | false =>
          simp only [e] at hm
          cases hm
          simp only [Bool.false_eq_true, if_false]
          exact p2 _ _ _ nw3 σ2 (sl2.now nw3)
        | true =>
          simp only [e] at hm
          simp only [if_true]
          refine ⟨fun σ4 H4 => ∃ φ4 F4 ρ4 S4 r, SG τ X.K φ4 F4 H4 S4 ∧ Slots X.K X.mg φ4 F4 H4 S4.length σ4 ρ4 ∧ whN gc sb m ρ4 S4 = some r ∧ PostS τ X.K X.mg W S4.length φ4 F4 H4 E r, fun σ4 H4 h => ⟨m, Nat.lt_succ_self m, h⟩, φ3, F3, ρ2, S3, nw3.sg, sl2.now nw3, ?_⟩
          have p3 := PostS.start gs2 nw3 p2
          cases e2 : sb ρ2 S3 with
          | nx ρ4 S4 =>
            simp only [e2] at hm
            exact fun φ5 F5 H5 nw5 σ5 sl5 => ⟨φ5, F5, ρ4, S4, r, nw5.sg, sl5, hm, PostS.start nw3.sg nw5 p3⟩
          | ct ρ4 S4 =>
            simp only [e2] at hm
            exact fun φ5 F5 H5 nw5 σ5 sl5 => ⟨φ5, F5, ρ4, S4, r, nw5.sg, sl5, hm, PostS.start nw3.sg nw5 p3⟩
          | bk ρ4 S4 => simp only [e2] at hm; cases hm; exact p3
          | ret v4 S4 => simp only [e2] at hm; cases hm; exact p3
          | ex x4 ρ4 S4 => simp only [e2] at hm; cases hm; exact p3
          | bad => simp only [e2] at hm; cases hm; exact p3⟩
end
def wipeE (ρ : Env) : List Nat → Env
  | [] => ρ
  | v :: vs => (wipeE ρ vs).set v none
def noX {α : Type} : Res α → Res α
  | .ok a S => .ok a S
  | _ => .bad
@[simp] theorem noX_ok {α : Type} (a : α) (S : Store) : noX (Res.ok a S) = .ok a S := rfl
def lcL (g : Tg) (t : Tv) (e : Ev) (ρ : Env) : List D → List D → Store → Res (List D)
  | [], acc, S => .ok acc S
  | x :: xs, acc, S => match g (.d x) ρ with
    | none => .bad
    | some ρ1 => (noX (t ρ1 S)).bind fun c S1 => if c = true then (noX (e ρ1 S1)).bind fun v S2 => (fr v S2).bind fun d S3 => if acc.length < sizeLine then lcL g t e ρ xs (acc ++ [d]) S3 else .bad
      else lcL g t e ρ xs acc S1
def eLc (m : Bool) (it : Iv) (g : Tg) (t : Tv) (e : Ev) (vs : List Nat) : Ev := fun ρ S => (it ρ S).bind fun ds S1 => (lcL g t e (wipeE ρ vs) ds [] S1).bind fun acc S2 => mkL m acc S2
def tYesD : Tv := fun _ S => .ok true S
structure DTs (τ : Tb) (X : Cx) (W : WX) (ifs : List Expr) (t : Tv) : Prop where
  r : PTs X ifs (RT τ X.K X.mg W t)
theorem PTs.mono {X : Cx} {e : List Expr} {t t' : TT} (h : PTs X e t) (m : ∀ σ H Q, t' σ H Q → t σ H Q) : PTs X e t' := ⟨fun pins s σ H Q I q => h.run pins s σ H Q I (m _ _ _ q)⟩
theorem dts_nil {X : Cx} {W : WX} : DTs τ X W [] tYesD := ⟨PTs.mono pts_nil fun σ H Q ⟨φ, F, ρ, S, g, sl, p⟩ => PostT.ok g p⟩
theorem dts_one {X : Cx} {W : WX} {c : Expr} {t : Tv} (h : DT τ X W c t) : DTs τ X W [c] t := ⟨pts_one h.r⟩
section
variable {K : PySem.W.Frag} {mg : Str → Option Value} {φ : Nat → Addr} {F : Addr → Prop} {H : Hp} {n : Nat}
theorem wipeE_length (ρ : Env) : ∀ vs : List Nat, (wipeE ρ vs).length = ρ.length
  | [] => rfl
  | v :: vs => by unfold wipeE; rw [List.length_set, wipeE_length ρ vs]
theorem wipe_get (σ : L2.St) (i : Nat) : ∀ vs : List Nat, (L2.wipe σ vs)[i]? = if i ∈ vs then (if i < σ.length then some none else none) else σ[i]?
  | [] => by simp [L2.wipe]
  | v :: vs => by
    unfold L2.wipe
    by_cases hv : v = i
    · subst hv
      by_cases hl : v < σ.length
      · rw [List.getElem?_set_self (by rw [wipe_length]; exact hl)]; simp [hl]
      · rw [List.getElem?_eq_none (by rw [List.length_set, wipe_length]; omega)]; simp [hl]
    · rw [List.getElem?_set_ne hv, wipe_get σ i vs]
      have : i ∈ v :: vs ↔ i ∈ vs := by simp [Ne.symm hv]
      simp only [this]
theorem wipeE_get (σ : Env) (i : Nat) : ∀ vs : List Nat, (wipeE σ vs)[i]? = if i ∈ vs then (if i < σ.length then some none else none) else σ[i]?
  | [] => by simp [wipeE]
  | v :: vs => by
    unfold wipeE
    by_cases hv : v = i
    · subst hv
      by_cases hl : v < σ.length
      · rw [List.getElem?_set_self (by rw [wipeE_length]; exact hl)]; simp [hl]
      · rw [List.getElem?_eq_none (by rw [List.length_set, wipeE_length]; omega)]; simp [hl]
    · rw [List.getElem?_set_ne hv, wipeE_get σ i vs]
      have : i ∈ v :: vs ↔ i ∈ vs := by simp [Ne.symm hv]
      simp only [this]
theorem Slots.wiped {σ : L2.St} {ρ : Env} (r : Slots K mg φ F H n σ ρ) (vs : List Nat) : Slots K mg φ F H n (L2.wipe σ vs) (wipeE ρ vs) := by
  refine ⟨by rw [wipe_length, wipeE_length]; exact r.1, fun i x h => ?_⟩
  rw [wipeE_get] at h
  split at h
  · split at h <;> cases h
  · rename_i hn
    obtain ⟨v, h1, h2⟩ := r.2 i x h
    exact ⟨v, by rw [wipe_get, if_neg hn]; exact h1, h2⟩
theorem wipe_same {σ σ1 : L2.St} {ws vs : List Nat} (hw : ∀ i, i ∈ ws → i ∈ vs) (kp : Kept ws (L2.wipe σ vs) σ1) : L2.wipe σ1 vs = L2.wipe σ vs := by
  obtain ⟨hl, h⟩ := kp
  apply List.ext_getElem?
  intro i
  rw [wipe_length] at hl
  rw [wipe_get, wipe_get]
  by_cases hi : i ∈ vs
  · simp only [hi, if_true, hl]
  · simp only [hi, if_false]
    rw [h i fun q => hi (hw i q), wipe_get, if_neg hi]
end
section
variable {X : Cx} {W : WX} {tg it elt : Expr} {ifs : List Expr} {scope : Scope} {own : List (Str × Nat)} {pos : Pos} {f : Iv} {g : Tg} {ws : List Nat} {t : Tv} {e : Ev}
theorem lc_reads {m : Bool} {vs : List Nat} (hw : ∀ i, i ∈ ws → i ∈ vs) {σ : L2.St} {H : Hp} {Q : VK} (h : RE τ X.K X.mg W (eLc m f g t e vs) σ H Q) :
    tLc (RI τ X.K X.mg W f) (RG τ X.K X.mg g ws) (RT τ X.K X.mg W0 t) (RE τ X.K X.mg W0 e) vs σ H Q := by
  obtain ⟨φ, F, ρ, S, gs, sl, p⟩ := h
  refine ⟨φ, F, ρ, S, gs, sl, PostG.bind gs p fun φ1 F1 H1 S1 ds J nw1 yl p1 => fun Dd hD => ?_⟩
  have sl1 := sl.now nw1
  have dom1 := nw1.sg.dom
  have nF1 : ¬ F1 Dd := fun h => dom1 Dd h hD
  refine lc_it yl.walk (fun i H2 => ∃ φ2 F2 S2 xs acc, Now τ X.K S1.length φ1 F1 H1 φ2 F2 H2 S2 ∧ H2 Dd = some (.lst xs) ∧ ¬ F2 Dd ∧ (∀ i, i < S2.length → φ2 i ≠ Dd) ∧ FzAll X.K F2 H2 xs acc ∧
      Post τ X.K X.mg (fun c od H' => W c od σ H') S1.length φ1 F1 H1 Q ((lcL g t e (wipeE ρ vs) (ds.drop i) acc S2).bind fun acc S2 => mkL m acc S2))
    ⟨φ1, F1, S1, [], [], (Now.refl nw1.sg).other hD (.inl hD) dom1 nF1 fun i hi => nw1.sg.neAt hi hD, upd_same, nF1, fun i hi => nw1.sg.neAt hi hD, .nil, p1⟩ (fun i H2 _ ⟨_, _, _, _, _, n, _⟩ a h => n.ext.same a h) ?_ ?_
  · intro i v H2 H3 hlt ⟨φ2, F2, S2, xs, acc, nw2, d2, f2, s2, fz2, p2⟩ ⟨d, hd, yi⟩
    have hdr : ds.drop i = d :: ds.drop (i + 1) := by
      obtain ⟨h1, h2⟩ := List.getElem?_eq_some_iff.mp hd
      rw [← h2, List.drop_eq_getElem_cons h1]
    rw [hdr] at p2
    obtain ⟨F3, nw3, fz3⟩ : ∃ F3, Now τ X.K S2.length φ2 F2 H2 φ2 F3 H3 S2 ∧ Fz X.K F3 H3 v d := by
      rcases yi with ⟨rfl, fz⟩ | ⟨T, us, es, rfl, hT, rfl, rfl, fz⟩
      · exact ⟨F2, .refl nw2.sg, fz.ext nw2.ext.sub nw2.ext.same⟩
      · have nw := nw2.sg.fresh (o := .tup us) hT
        exact ⟨_, nw, .tup (.inl ⟨.inr rfl, upd_same⟩) ((fz.ext nw2.ext.sub nw2.ext.same).ext nw.ext.sub nw.ext.same)⟩
    have base3 := Now.trans nw1.sg nw2 nw3
    obtain ⟨d3, f3, s3⟩ := nw3.priv (by rw [d2]; simp) (by rw [d2]; simp) f2 s2
    have slw : Slots X.K X.mg φ2 F3 H3 S2.length (L2.wipe σ vs) (wipeE ρ vs) := ((sl1.now nw2).now nw3).wiped vs
    refine ⟨φ2, F3, wipeE ρ vs, S2, .d d, nw3.sg, slw, fz3, ?_⟩
    unfold lcL at p2
    cases q : g (.d d) (wipeE ρ vs) with
    | none => rw [q] at p2; exact p2.elim
    | some ρ3 =>
      simp only [q] at p2 ⊢
      have go : Post τ X.K X.mg (fun c od H' => W c od σ H') S1.length φ1 F1 H1 Q (((noX (t ρ3 S2)).bind fun c S1 => if c = true then (noX (e ρ3 S1)).bind fun v S2 => (fr v S2).bind fun d S3 => if acc.length < sizeLine then lcL g t e (wipeE ρ vs) (ds.drop (i + 1)) (acc ++ [d]) S3 else .bad
        else lcL g t e (wipeE ρ vs) (ds.drop (i + 1)) acc S1).bind fun acc S2 => mkL m acc S2) := p2
      refine fun σ3 sl3 n3 => ⟨wipe_same hw n3, φ2, F3, ρ3, S2, nw3.sg, sl3, ?_⟩
      cases et : t ρ3 S2 with
      | bad => rw [et] at go; exact go.elim
      | ex x S4 => rw [et] at go; exact go.elim
      | ok b S4 =>
        rw [et] at go
        simp only [noX_ok, bind_ok] at go
        intro φ4 F4 H4 nw4 b' eb
        have eb : b' = b := eb
        subst eb
        have base4 := Now.trans nw1.sg base3 nw4
        obtain ⟨d4, f4, s4⟩ := nw4.priv (by rw [d3, d2]; simp) (by rw [d3, d2]; simp) f3 s3
        have d4' : H4 Dd = some (.lst xs) := by rw [d4, d3, d2]
        have fz4 : FzAll X.K F4 H4 xs acc := (fz2.ext nw3.ext.sub nw3.ext.same).ext nw4.ext.sub nw4.ext.same
        cases b' with
        | false =>
          simp only [Bool.false_eq_true, if_false] at go ⊢
          exact ⟨φ4, F4, S4, xs, acc, base4, d4', f4, s4, fz4, go⟩
        | true =>
          simp only [if_true] at go ⊢
          refine ⟨φ4, F4, ρ3, S4, nw4.sg, sl3.now nw4, ?_⟩
          cases ee : e ρ3 S4 with
          | bad => rw [ee] at go; exact go.elim
          | ex x S5 => rw [ee] at go; exact go.elim
          | ok v5 S5 =>
            rw [ee] at go
            simp only [noX_ok, bind_ok] at go
            intro φ5 F5 H5 nw5 y ry
            have hne : fr v5 S5 ≠ .bad := fun e => by rw [e] at go; exact go
            obtain ⟨φ6, F6, S6, d6, nw6, fz6, e6⟩ := fr_ok nw5.sg ry hne
            rw [e6] at go
            simp only [noX_ok, bind_ok] at go
            by_cases hl : acc.length < sizeLine
            · rw [if_pos hl] at go
              have nw56 := Now.trans nw4.sg nw5 nw6
              have base6 := Now.trans nw1.sg base4 nw56
              obtain ⟨d7, f7, s7⟩ := nw56.priv (by rw [d4']; simp) (by rw [d4']; simp) f4 s4
              rw [d4'] at d7
              have fz7 : FzAll X.K F6 H5 xs acc := fz4.ext nw56.ext.sub nw56.ext.same
              refine ⟨xs, d7, by rw [fz7.len]; exact hl, φ6, F6, S6, xs ++ [y], acc ++ [d6], base6.other hD (.inr ⟨_, d7, plain_lst⟩) dom1 f7 s7, upd_same, f7, s7, ?_, go⟩
              exact (fz7.append (.cons fz6 .nil)).ext (fun _ h => h) fun a h => upd_ne fun e => f7 (by rw [← e]; exact h)
            · rw [if_neg hl] at go; exact go.elim
  · intro H2 ⟨φ2, F2, S2, xs, acc, nw2, d2, f2, s2, fz2, p2⟩
    rw [List.drop_length] at p2
    have p2 : Post τ X.K X.mg (fun c od H' => W c od σ H') S1.length φ1 F1 H1 Q (mkL m acc S2) := p2
    cases m with
    | true => exact p2 _ _ _ (nw2.keep hD s2 ⟨f2, xs, d2, fz2⟩) _ ⟨by simp, by simp⟩
    | false => exact p2 _ _ _ (nw2.take hD (by rw [d2]; simp) (by rw [d2]; simp) s2) _ (.lst (.inr rfl) d2 (fz2.ext (fun _ h => .inl h) fun _ _ => rfl))
theorem de_lc {k : Nat} (m : Bool) (cc : Cc X W k) (hi : DI τ X W tg it f) (ok : BlkOk X.N X.env.scope scope own) (hg : ∀ (s : Shared) (H : Hp) (C : Addr) (cl : List (Str × Addr)) (fp : List Addr), DG τ (X.blk s H scope (compEnvC scope cl C X.env) fp) tg g ws)
    (ht : ∀ (s : Shared) (H : Hp) (C : Addr) (cl : List (Str × Addr)) (fp : List Addr), DTs τ (X.blk s H scope (compEnvC scope cl C X.env) fp) W0 ifs t) (he : ∀ (s : Shared) (H : Hp) (C : Addr) (cl : List (Str × Addr)) (fp : List Addr), DE τ (X.blk s H scope (compEnvC scope cl C X.env) fp) W0 elt e)
    (hw : ∀ i, i ∈ ws → i ∈ own.map (·.2) := by decide) (hs : ∀ x, foldedSetIterable it X.env x = pure x := by intro _; rfl) : DE τ X W (.ListComp elt [⟨tg, it, ifs, 0⟩] scope pos) (eLc m f g t e (own.map (·.2))) :=
  ⟨PE.mono (pe_lc cc.calm cc.nd hi.r ok (fun s H C cl fp => (hg s H C cl fp).r) (fun s H C cl fp => (ht s H C cl fp).r) (fun s H C cl fp => (he s H C cl fp).r) hs) fun σ H Q h => lc_reads hw h⟩
theorem ds_lc {k : Nat} (i : Nat) {y : Str} {py spos : Pos} (m : Bool) (cc : Cc X W k) (hy : X.N[i]? = some y) (hyl : X.env.scope.names.lookup y = some .local) (hsw : swapsWith (.ListComp elt [⟨tg, it, ifs, 0⟩] scope pos) (some (.Name y py)) spos.line X.env = pure true) (hi : DI τ X W tg it f) (ok : BlkOk X.N X.env.scope scope own)
    (hg : ∀ (s : Shared) (H : Hp) (C : Addr) (cl : List (Str × Addr)) (fp : List Addr), DG τ (X.blk s H scope (compEnvC scope cl C X.env) fp) tg g ws) (ht : ∀ (s : Shared) (H : Hp) (C : Addr) (cl : List (Str × Addr)) (fp : List Addr), DTs τ (X.blk s H scope (compEnvC scope cl C X.env) fp) W0 ifs t)
    (he : ∀ (s : Shared) (H : Hp) (C : Addr) (cl : List (Str × Addr)) (fp : List Addr), DE τ (X.blk s H scope (compEnvC scope cl C X.env) fp) W0 elt e) (hw : ∀ i, i ∈ ws → i ∈ own.map (·.2) := by decide) (hs : ∀ x, foldedSetIterable it X.env x = pure x := by intro _; rfl) :
    DS τ X W (.Assign [.Name y py] (.ListComp elt [⟨tg, it, ifs, 0⟩] scope pos) spos) (sSet i (eLc m f g t e (own.map (·.2)))) :=
  ⟨PS.mono (ps_setLc cc.calm cc.nd hy hyl hsw hi.r ok (fun s H C cl fp => (hg s H C cl fp).r) (fun s H C cl fp => (ht s H C cl fp).r) (fun s H C cl fp => (he s H C cl fp).r) hs) fun E σ H ⟨φ, F, ρ, S, gs, sl, p⟩ =>
    lc_reads (W := W) hw ⟨φ, F, ρ, S, gs, sl, PostS.st gs sl p fun φ1 F1 H1 S1 v x nw1 r1 p1 => PostS.nx nw1.sg ((sl.now nw1).set r1) p1⟩⟩
end
def sRaise (x : Str) : Sv := fun ρ S => .ex ⟨x, []⟩ ρ S
theorem ds_raise {X : Cx} {W : WX} {k : Nat} {e : Expr} {pos : Pos} {x : Str} {C : Addr} (cc : Cc X W k) (hm : X.mg x = some (.ref C)) (he : PMk X e (fun _ H Q => Q (.ref C) none H)) : DS τ X W (.Raise (some e) none pos) (sRaise x) :=
  ⟨PS.mono (ps_raise cc.calm cc.tk he) fun E σ H ⟨φ, F, ρ, S, gs, sl, p⟩ => p φ F H (.refl gs) _ _ ⟨hm, rfl⟩ σ sl⟩
section
variable {P : Program} {w : World} {K : PySem.W.Frag} {mg : Str → Option Value} {base : Heap} {φ φ' : Nat → Addr} {F F' : Addr → Prop} {H H' : Hp} {S S' : Store} {n : Nat}
theorem Now.cut (nw : Now τ K n φ F H φ' F' H' S') : Now τ K n φ F H φ' F' H' (S'.take n) :=
  ⟨nw.ext, nw.sg.take n, by rw [List.length_take]; exact Nat.le_min.mpr ⟨Nat.le_refl _, nw.le⟩, nw.rest, nw.alive, fun i h1 h2 => absurd h2 (by rw [List.length_take]; omega), nw.fnew⟩
theorem slots_start {vs : List V} {xs : List Vl} (r : RepVs K mg φ F H n vs xs) (m : Nat) : Slots K mg φ F H n (vs.map some ++ List.replicate m none) (xs.map some ++ List.replicate m none) := by
  have ln := r.len
  refine ⟨by simp [ln], fun i x h => ?_⟩
  have get : ∀ {vs : List V} {xs : List Vl} {i : Nat} {x : Vl}, RepVs K mg φ F H n vs xs → xs[i]? = some x → ∃ v, vs[i]? = some v ∧ RepV K mg φ F H n v x := fun {vs} => by
    induction vs with
    | nil => intro xs i x r h; cases xs with
      | nil => simp at h
      | cons y ys => exact r.elim
    | cons v vs ih => intro xs i x r h; cases xs with
      | nil => exact r.elim
      | cons y ys =>
        cases i with
        | zero => simp at h; subst h; exact ⟨v, rfl, r.1⟩
        | succ i =>
          obtain ⟨v', h1, h2⟩ := ih r.2 (by simpa using h)
          exact ⟨v', by simpa using h1, h2⟩
  by_cases hi : i < xs.length
  · rw [List.getElem?_append_left (by simpa using hi), List.getElem?_map] at h
    cases q : xs[i]? with
    | none => rw [q] at h; cases h
    | some y =>
      rw [q] at h
      cases h
      obtain ⟨v, h1, h2⟩ := get r q
      exact ⟨v, by rw [List.getElem?_append_left (by simpa [ln] using hi), List.getElem?_map, h1]; rfl, h2⟩
  · rw [List.getElem?_append_right (by simpa using hi), List.getElem?_replicate] at h
    split at h <;> cases h
theorem leave_ok {E : XW} {Q : VK} {v : Vl} {x : V} (g : SG τ K φ F H S) (nw : Now τ K S.length φ F H φ' F' H' S') (r : RepV K mg φ' F' H' S'.length x v) (p : Post τ K mg E S.length φ F H Q (leave S.length v S')) : Q x H' := by
  have small : RepV K mg φ' F' H' S'.length x v → (∀ i, v ≠ .loc i) → (∀ q, v ≠ .lam q) → RepV K mg φ' F' H' (S'.take S.length).length x v := fun r hn hm => by
    cases v with
    | loc i => exact absurd rfl (hn i)
    | lam q => exact absurd rfl (hm q)
    | _ => exact r
  cases v with
  | loc i =>
    unfold leave at p
    obtain ⟨hi, rfl⟩ := r
    by_cases hl : i < S.length
    · simp only [hl, if_true] at p
      exact p _ _ _ nw.cut _ ⟨by rw [List.length_take]; omega, rfl⟩
    · simp only [hl, if_false] at p
      cases q : S'[i]? with
      | none => rw [q] at p; exact p.elim
      | some o =>
        simp only [q] at p
        have hlen : (S'.take S.length).length = S.length := by rw [List.length_take]; exact Nat.min_eq_left nw.le
        have k := nw.cut.keep (p := φ' i) (mo := o) (nw.new i (Nat.not_lt.mp hl) hi) (fun j hj e => by
          rw [hlen] at hj
          have := nw.sg.inj j i (Nat.lt_of_lt_of_le hj nw.le) hi e
          omega) (nw.sg.obj i o q)
        rw [hlen] at k
        exact p _ _ _ k _ ⟨by rw [List.length_append, hlen]; simp, by simp⟩
  | d y => exact p _ _ _ nw.cut _ (small r (fun _ h => nomatch h) fun _ h => nomatch h)
  | glo y => exact p _ _ _ nw.cut _ (small r (fun _ h => nomatch h) fun _ h => nomatch h)
  | ty y => exact p _ _ _ nw.cut _ (small r (fun _ h => nomatch h) fun _ h => nomatch h)
  | tys y => exact p _ _ _ nw.cut _ (small r (fun _ h => nomatch h) fun _ h => nomatch h)
  | scr y => exact p _ _ _ nw.cut _ (small r (fun _ h => nomatch h) fun _ h => nomatch h)
  | xa y => exact p _ _ _ nw.cut _ (small r (fun _ h => nomatch h) fun _ h => nomatch h)
  | lam y => exact (show False from p).elim
  | glos y => exact p _ _ _ nw.cut _ (small r (fun _ h => nomatch h) fun _ h => nomatch h)
abbrev cxD (P : Program) (w : World) (K : PySem.W.Frag) (mg : Str → Option Value) (base : Heap) (N : List Str) (q : Str) (st : Stmt) (f : Addr) (cdv : Value) (B : Around) (fs : List PySem.Env) (s : Shared) (H : Hp) (E : XK) : Cx := cxOf (L2.CX P w) P w K mg base N q (defScope st) f cdv B fs s H E
abbrev wD (E : XK) : WX := fun c d _ H => E c d H
theorem cc_def {N : List Str} {q : Str} {st : Stmt} {f : Addr} {cdv : Value} {B : Around} {fs : List PySem.Env} {s : Shared} {H : Hp} {E : XK} {k : Nat} (nd : N.Nodup) (rm : Room k (B.deeper (envOfC q (defScope st) s.heap.objs.size f cdv))) (gd : B.guards = some []) :
    Cc (cxD P w K mg base N q st f cdv B fs s H E) (wD E) k := ⟨rfl, nd, takes_of rfl rfl rfl rfl, rm, passes_of rfl, gd⟩
theorem fk_fnC {x q : Str} {st : Stmt} {f : Addr} {fd : FuncData} {N ps : List Str} {k : Nat} {b : Sv} (Fu : Fun K x q st f fd) (Sc : FnScope N ps (defScope st))
    (body : ∀ (cdv : Value), fd.code = cdv → ∀ (B : Around) (fs : List PySem.Env) (s : Shared) (H : Hp) (E : XK), Cc (cxD P w K mg base N q st f cdv B fs s H E) (wD E) k → DB τ (cxD P w K mg base N q st f cdv B fs s H E) (wD E) (defBody st) b) :
    Fk P w K mg base (k + 1) f fd ps (spN τ K mg ps.length (fnOf N.length b)) := by
  refine fk_of Fu Sc (fun vs H Q E h => h.1) fun cdv hc B fs s H vs Q E rm gd ⟨hl, φ, F, xs, S, g, r, p⟩ => ⟨_, (body cdv hc B fs s H E (cc_def Sc.nd rm gd)).r, φ, F, _, S, g, slots_start r _, ?_⟩
  have p0 : Post τ K mg E S.length φ F H Q (fnOf N.length b xs S) := p
  unfold fnOf at p0
  rw [← r.len] at p0
  cases e : b (xs.map some ++ List.replicate (N.length - vs.length) none) S with
  | nx ρ S1 => rw [e] at p0; exact fun φ1 F1 H1 nw σ1 sl => p0 _ _ _ nw.cut .non .non
  | ret v S1 => rw [e] at p0; exact fun φ1 F1 H1 nw x rx => leave_ok g nw rx p0
  | ex x ρ S1 => rw [e] at p0; exact fun φ1 F1 H1 nw c od rx σ1 sl => p0 _ _ _ nw.cut c od rx
  | bk ρ S1 => rw [e] at p0; exact (show False from p0).elim
  | ct ρ S1 => rw [e] at p0; exact (show False from p0).elim
  | bad => rw [e] at p0; exact p0
theorem fk_fn {x q : Str} {st : Stmt} {f : Addr} {fd : FuncData} {N ps : List Str} {k : Nat} {b : Sv} (Fu : Fun K x q st f fd) (Sc : FnScope N ps (defScope st))
    (body : ∀ (cdv : Value) (B : Around) (fs : List PySem.Env) (s : Shared) (H : Hp) (E : XK), Cc (cxD P w K mg base N q st f cdv B fs s H E) (wD E) k → DB τ (cxD P w K mg base N q st f cdv B fs s H E) (wD E) (defBody st) b) :
    Fk P w K mg base (k + 1) f fd ps (spN τ K mg ps.length (fnOf N.length b)) := fk_fnC Fu Sc fun cdv _ => body cdv
end
def cutD (xs : List D) (lo hi : Option Int) : List D := (xs.drop (HT.sIx xs.length 0 lo)).take (HT.sIx xs.length xs.length hi - HT.sIx xs.length 0 lo)
abbrev Pv := Env → Store → Res (Option Int)
def pNo : Pv := fun _ S => .ok none S
def pAt (f : Ev) : Pv := fun ρ S => (f ρ S).bind fun v S1 => match view S1 v with
  | some (.int i) => .ok (some i) S1
  | _ => .bad
def slV (m : Bool) (v : Vl) (lo hi : Option Int) (S : Store) : Res Vl := match v with
  | .scr ns => mkL m (cutD (ns.map .int) lo hi) S
  | v => match view S v with
    | some (.list xs) => mkL m (cutD xs lo hi) S
    | some (.tuple xs) => .ok (.d (.tuple (cutD xs lo hi))) S
    | _ => .bad
def eSl (m : Bool) (f : Ev) (lo hi : Pv) : Ev := fun ρ S => (f ρ S).bind fun v S1 => (lo ρ S1).bind fun l S2 => (hi ρ S2).bind fun h S3 => slV m v l h S3
abbrev RepP : (Nat → Addr) → (Addr → Prop) → Hp → Nat → Option Int → Option Int → Prop := fun _ _ _ _ x v => x = v
def RP (τ : Tb) (K : PySem.W.Frag) (mg : Str → Option Value) (W : WX) (f : Pv) : TO := fun σ H Q => ∃ φ F ρ S, SG τ K φ F H S ∧ Slots K mg φ F H S.length σ ρ ∧ PostG τ K mg RepP (fun c od H' => W c od σ H') S.length φ F H Q (f ρ S)
structure DP (τ : Tb) (X : Cx) (W : WX) (e : Option Expr) (f : Pv) : Prop where
  r : PO X e (RP τ X.K X.mg W f)
theorem PO.mono {X : Cx} {e : Option Expr} {t t' : TO} (h : PO X e t) (m : ∀ σ H Q, t' σ H Q → t σ H Q) : PO X e t' := ⟨fun pins s σ H Q I q => h.run pins s σ H Q I (m _ _ _ q)⟩
section
variable {K : PySem.W.Frag} {mg : Str → Option Value} {φ : Nat → Addr} {F : Addr → Prop} {H : Hp} {S : Store}
theorem FzAll.cut {xs : List V} {ds : List D} (h : FzAll K F H xs ds) (lo hi : Option Int) : FzAll K F H (cutV xs lo hi) (cutD ds lo hi) := by
  unfold cutV cutD
  rw [h.len]
  exact (h.drop _).take _
theorem cutD_whole {ds : List D} {lo hi : Option Int} (h : HT.sIx ds.length 0 lo = 0 ∧ HT.sIx ds.length ds.length hi = ds.length) : cutD ds lo hi = ds := by
  unfold cutD
  rw [h.1, h.2]
  simp
theorem fz_ints : ∀ ns : List Int, FzAll K F H (ns.map V.int) (ns.map .int)
  | [] => .nil
  | n :: ns => .cons (.int n) (fz_ints ns)
end
section
variable {X : Cx} {W : WX} {e : Expr} {lo hi : Option Expr} {f : Ev} {fl fh : Pv} {pos p2 : Pos}
theorem dp_no : DP τ X W none pNo := ⟨PO.mono po_none fun σ H Q ⟨φ, F, ρ, S, g, sl, p⟩ => p _ _ _ (.refl g) _ rfl⟩
theorem dp_at (h : DE τ X W e f) : DP τ X W (some e) (pAt f) := ⟨PO.mono (po_some h.r) fun σ H Q ⟨φ, F, ρ, S, g, sl, p⟩ => ⟨φ, F, ρ, S, g, sl, PostG.bind g p fun φ1 F1 H1 S1 v x nw1 r1 p1 => by
  split at p1
  · rename_i i q
    exact ⟨i, ob_of nw1.sg r1 q, p1 _ _ _ (.refl nw1.sg) _ rfl⟩
  · exact p1.elim⟩⟩
theorem de_sl (m : Bool) (he : DE τ X W e f) (hl : DP τ X W lo fl) (hh : DP τ X W hi fh) : DE τ X W (.Subscript e (.Slice lo hi none p2) pos) (eSl m f fl fh) := ⟨PE.mono (pe_slice (sl_list.or sl_tupA) he.r hl.r hh.r) fun σ H Q ⟨φ, F, ρ, S, g, sl, p⟩ =>
  ⟨φ, F, ρ, S, g, sl, PostG.bind g p fun φ1 F1 H1 S1 v x nw1 r1 p1 => ⟨φ1, F1, ρ, S1, nw1.sg, sl.now nw1, PostG.bind nw1.sg p1 fun φ2 F2 H2 S2 l l' nw2 r2 p2 => by
    have r2 : l' = l := r2
    subst r2
    refine ⟨φ2, F2, ρ, S2, nw2.sg, (sl.now nw1).now nw2, PostG.bind nw2.sg p2 fun φ3 F3 H3 S3 h h' nw3 r3 p3 => ?_⟩
    have r3 : h' = h := r3
    subst r3
    have rv := (r1.now nw2).now nw3
    unfold slV at p3
    split at p3
    · rename_i ns
      obtain ⟨a, rfl, q⟩ := rv
      have sq : SqL X.K H3 a (ns.map V.int) := q.elim (fun ⟨_, o, z⟩ => .inl (.inr ⟨o, z⟩)) fun z => .inr z
      exact .inl ⟨a, _, rfl, sq, Post.newL nw3.sg ((fz_ints ns).cut _ _) p3⟩
    · split at p3
      · rename_i ds q
        obtain ⟨a, xs, rfl, h1, h2⟩ := ob_of nw3.sg rv q
        exact .inl ⟨a, xs, rfl, .inl (.inl h1), Post.newL nw3.sg (h2.cut _ _) p3⟩
      · rename_i ds q
        obtain ⟨a, xs, rfl, h1, h2⟩ := ob_of nw3.sg rv q
        refine .inr ⟨a, xs, rfl, h1.sq, fun hw => ?_, fun _ => Post.newT nw3.sg (h2.cut _ _) p3⟩
        rw [h2.len] at hw
        rw [cutD_whole hw] at p3
        exact Post.ok nw3.sg p3 (.tup h1 h2)
      · exact p3.elim⟩⟩⟩
end
def fRepr : Fn := fun vs S => match vs with
  | [v] => match view S v with
    | some d => if (shal d && d.showable && decide (d.shown.length ≤ sizeLine)) = true then .ok (.d (.str d.shown)) S else .bad
    | none => .bad
  | _ => .bad
def rRepr (K : PySem.W.Frag) : List V → Hp → VK → Prop := fun vs H Q => ∃ x d, vs = [x] ∧ Dp K H x d ∧ shal d = true ∧ d.showable = true ∧ d.shown.length ≤ sizeLine ∧ Q (.str d.shown) H
theorem ok_repr {K : PySem.W.Frag} {mg : Str → Option Value} : CallOk τ K mg (rRepr K) fRepr := by
  intro φ F H S xs vs Q W g r p
  unfold fRepr at p
  split at p
  · rename_i v
    obtain ⟨x, rfl, r1⟩ := reps1 r
    cases e : view S v with
    | none => rw [e] at p; exact p.elim
    | some d =>
      simp only [e] at p
      by_cases hl : (shal d && d.showable && decide (d.shown.length ≤ sizeLine)) = true
      · rw [if_pos hl] at p
        have h2 : (shal d = true ∧ d.showable = true) ∧ d.shown.length ≤ sizeLine := by simpa using hl
        exact ⟨x, d, rfl, (ob_of g r1 e).dp (shal_p h2.1.1).1, h2.1.1, h2.1.2, h2.2, Post.ok g p (.str _)⟩
      · rw [if_neg hl] at p; exact p.elim
  · exact p.elim
mutual
theorem plain_noDict : ∀ d : D, d.plain = true → d.hasDict = false
  | .none, _ => by simp [PyData.hasDict]
  | .bool _, _ => by simp [PyData.hasDict]
  | .int _, _ => by simp [PyData.hasDict]
  | .str _, _ => by simp [PyData.hasDict]
  | .list xs, h => by
    simp only [PyData.hasDict]
    exact plain_noDicts xs (by simpa [PyData.plain] using h)
  | .tuple xs, h => by
    simp only [PyData.hasDict]
    exact plain_noDicts xs (by simpa [PyData.plain] using h)
  | .dict _, h => by simp [PyData.plain] at h
theorem plain_noDicts : ∀ ds : List D, PyData.plainAll ds = true → PyData.hasDictAll ds = false
  | [], _ => by simp [PyData.hasDictAll]
  | x :: xs, h => by
    have h2 : x.plain = true ∧ PyData.plainAll xs = true := by simpa [PyData.plainAll] using h
    simp only [PyData.hasDictAll, plain_noDict x h2.1, plain_noDicts xs h2.2, Bool.or_self]
end
theorem call_reprX {X : Cx} (hg : X.A.guards = some []) (hu : X.A.units + 64 < cLine) : CallR X (.builtin "repr") (rRepr X.K) := by
  intro pins s σ H xs us Q I r h
  obtain ⟨x, d, rfl, dp, hs, hsh, hz, q⟩ := h
  obtain ⟨u, rfl, ru⟩ := vals1 r
  obtain ⟨as, rd⟩ := Dp.reads I d x u dp ru
  have fin : ∀ (h' : Heap) (t : Tok) (tk : Nat), (∀ b o, s.heap.get? b = some o → h'.get? b = some o) → EP X pins σ Q (.str d.shown t) { s with heap := h', toks := tk } := fun h' t tk hk => ⟨.str d.shown, H, I.kept hk, ⟨_, rfl⟩, q⟩
  have hd := (shal_p hs).2
  have nd := plain_noDict d (shal_p hs).1
  cases rd with
  | none => exact PySem.P.repr_of_none (fin s.heap _ _ fun _ _ z => z)
  | bool b =>
    refine PySem.P.repr_of_bool ?_
    have := fin s.heap s.toks (s.toks + 1) fun _ _ z => z
    cases b <;> exact this
  | int i t =>
    have hi : i.natAbs.log2 < 1920 := by simpa [PyData.showable] using hsh
    exact PySem.P.repr_of_int hi (fin s.heap _ _ fun _ _ z => z)
  | str y t => exact PySem.P.repr_of_str (fin s.heap _ _ fun _ _ z => z) hz
  | list h1 h2 h3 h4 => exact repr_of_reads' (.list h1 h2 h3 h4) hsh (fun z => by rw [nd] at z; cases z) hg (by omega) (fun _ _ e => e) (fun h' u tk hk => fin h' u tk hk) hz
  | tuple h1 h2 h3 h4 => exact repr_of_reads' (.tuple h1 h2 h3 h4) hsh (fun z => by rw [nd] at z; cases z) hg (by omega) (fun _ _ e => e) (fun h' u tk hk => fin h' u tk hk) hz
  | dict => rw [PyData.hasDict] at nd; cases nd
theorem walk_fk {l : PySem.W.OpenLaw} {n k : Nat} {q : Program} {loose : List Str} {XP : (Str → Option Value) → Heap → Prop} {YP : World → Heap → Prop} {d : DefRec} {K : Params → PySem.W.Frag} {x : Str} {g : Fn}
    (hn : l.most = some n) (hn2 : n ≤ sizeLine) (noDef : d.params.defaults = []) (room : Room k callerA) (hY : ∀ (w : World) (h : Heap), YP w h → (K w.params).In h)
    (F : ∀ (w : World) (mg : Str → Option Value) (fa : Addr) (h : Heap), (K w.params).In h → h.Ns mainGlobals mg → mg d.name = some (.ref fa) → ∃ fd : FuncData, (∀ (s : Shared) (u : Value), BindsTo s fd ⟨[u], []⟩ [(x, u)]) ∧
        ∀ base : Heap, (K w.params).In base → base.Ns mainGlobals mg → Fk l.prog w (K w.params) mg base k fa fd [x] (spN [] (K w.params) mg 1 g))
    (law : ∀ ns : List Int, ns.length ≤ n → ∃ S, g [.scr ns] [] = .ok (.d (.bool true)) S) : PySem.W.WalkO q loose XP YP l.row.toRowW d [] (fun f vs => PySem.call f vs) := by
  refine Att.attach_call hn noDef fun w s₀ s₁ mg mb fa o pm cd doc a vs ns G Y ho hd hcd hmg hobj hints hlen hg => ?_
  have inK := hY w _ Y
  obtain ⟨fd, bind, hF⟩ := F w mg fa _ inK G.T.g hmg
  obtain ⟨S, e⟩ := law ns hlen
  have rv := vals_ints hints
  have at_ := fun {H : Hp} => law_at (H := H) inK G.T.g G.T.b G.T.builtins G.T.nolimit hg hobj (fun es ep z => by cases z) room hF bind
  have fin : ∀ {H : Hp} {F : Addr → Prop}, SG [] (K w.params) (fun _ => 0) F H [] → RepV (K w.params) mg (fun _ => 0) F H 0 (.ref a) (.scr ns) → spN [] (K w.params) mg 1 g [.ref a] H (fun v _ => v = .bl true) fun _ _ _ => False := fun {H F} sg r =>
    ⟨rfl, fun _ => 0, F, [.scr ns], [], sg, ⟨r, trivial⟩, by
      rw [e]
      intro φ' F' H' _ v r
      cases r
      rfl⟩
  cases hk : (K w.params).lookup a with
  | some ob =>
    have e1 := inK a ob hk
    rw [hobj] at e1
    cases e1
    refine at_ (H := fun _ => none) (fun b u z => by have z' : (none : Option HO) = some u := z; cases z') (fun b z => absurd rfl z) (fun z => absurd rfl z) (fin (F := fun _ => False) ⟨fun _ z => z.elim, fun i o z => by simp at z, fun i j z => by simp at z, fun _ z => by simp at z, fun _ z => by simp at z, fun _ _ z => (by cases z), fun _ _ _ z => (by cases z)⟩ ⟨a, rfl, .inr ⟨_, vs.toArray, _, hk, rfl, rfl, rfl, ?_, by simpa using rv⟩⟩)
    rw [List.size_toArray, hints.length]
    exact Nat.le_trans hlen hn2
  | none =>
    refine at_ (H := scriptH a { cls := .type "list", data := .seq vs.toArray } ns) (fun b u z => ?_) (fun b z => ?_) (fun _ => ⟨hk, _, scriptH_at⟩) (fin (F := fun b => b = a) ⟨fun b z => by rw [show b = a from z, scriptH_at]; simp, fun i o z => by simp at z, fun i j z => by simp at z, fun _ z => by simp at z, fun _ z => by simp at z, fun b ps z => by (by_cases e : b = a; (rw [e, scriptH_at] at z; cases z); (rw [show scriptH a _ ns b = none from if_neg e] at z; cases z)), fun b c q z => by (by_cases e : b = a; (exact e); (rw [show scriptH a _ ns b = none from if_neg e] at z; cases z))⟩ ⟨a, rfl, .inl ⟨rfl, _, scriptH_at⟩⟩)
    · by_cases hb : b = a
      · subst hb
        rw [scriptH_at] at z
        cases z
        exact ⟨hobj, by rw [List.length_map]; exact Nat.le_trans hlen hn2, vs, _, rv, hobj⟩
      · rw [show scriptH a _ ns b = none from if_neg hb] at z
        cases z
    · by_cases hb : b = a
      · exact hb
      · exact absurd (if_neg hb) z
structure DefF (K : PySem.W.Frag) (mg : Str → Option Value) (x y : Str) (st : Stmt) : Prop where
  ex : ∃ (f : Addr) (oc : Value) (od : Option Addr) (kV doc pm : Value) (an : Option Addr) (cdv ct : Value) (osl : Array (Option Value)), mg x = some (.ref f) ∧
    K.lookup f = some ⟨oc, od, .func (PySem.W.fnOf y y (defArgs st) (defBody st) (defScope st) .none kV doc pm an cdv ct), osl⟩ ∧ PySem.W.codeIn K cdv y = true ∧ PySem.W.keepIn K (.ref f) = true
theorem DefF.mk' {K : PySem.W.Frag} {mg : Str → Option Value} {x y : Str} {st : Stmt} {h : Heap} {f : Addr} {oc : Value} {od : Option Addr} {kV doc pm : Value} {an : Option Addr} {cdv ct : Value} {osl : Array (Option Value)} (X : K.In h) (G : h.Ns mainGlobals mg) (a : PySem.W.nsIn K mainGlobals x = some (some (.ref f)))
    (l : K.lookup f = some ⟨oc, od, .func (PySem.W.fnOf y y (defArgs st) (defBody st) (defScope st) .none kV doc pm an cdv ct), osl⟩) (c : PySem.W.codeIn K cdv y = true) (k : PySem.W.keepIn K (.ref f) = true) : DefF K mg x y st :=
  ⟨f, oc, od, kV, doc, pm, an, cdv, ct, osl, PySem.W.mg_of X G a, l, c, k⟩
structure ExF (K : PySem.W.Frag) (mg : Str → Option Value) (x : Str) : Prop where
  ex : ∃ C : Addr, mg x = some (.ref C) ∧ PySem.W.excIn K C He.veBase "ValueError.__new__" = true ∧ PySem.W.keepIn K (.ref C) = true ∧ PySem.W.subIn K (.ref C) (.type "BaseException") = some true ∧ PySem.W.typeIn K (.ref C) = some (.type "type")
theorem ExF.mk' {K : PySem.W.Frag} {mg : Str → Option Value} {x : Str} {h : Heap} {C : Addr} (X : K.In h) (G : h.Ns mainGlobals mg) (a : PySem.W.nsIn K mainGlobals x = some (some (.ref C))) (b : PySem.W.excIn K C He.veBase "ValueError.__new__" = true) (c : PySem.W.keepIn K (.ref C) = true)
    (d : PySem.W.subIn K (.ref C) (.type "BaseException") = some true) (e : PySem.W.typeIn K (.ref C) = some (.type "type")) : ExF K mg x := ⟨C, PySem.W.mg_of X G a, b, c, d, e⟩
structure DefOk (τ : Tb) (P : Program) (w : World) (K : PySem.W.Frag) (mg : Str → Option Value) (base : Heap) (k n : Nat) (x : Str) (g : Fn) : Prop where
  ex : ∃ (f : Addr) (fd : FuncData) (ps : List Str), Fk P w K mg base k f fd ps (spN τ K mg n g) ∧ mg x = some (.ref f) ∧ PySem.W.keepIn K (.ref f) = true ∧ Binds K fd ps []
section
variable {P : Program} {w : World} {K : PySem.W.Frag} {mg : Str → Option Value} {base : Heap}
theorem def_ok {x y : Str} {st : Stmt} {N ps : List Str} {k n : Nat} {b : Sv} (Fu : DefF K mg x y st) (Sc : FnScope N ps (defScope st)) (hn : ps.length = n)
    (bi : ∀ (kV doc pm : Value) (an : Option Addr) (cdv ct : Value) (us : List Value), us.length = ps.length → bindArgs (PySem.W.fnOf y y (defArgs st) (defBody st) (defScope st) .none kV doc pm an cdv ct) ⟨us, []⟩ = pure (ps.zip us))
    (body : ∀ (f : Addr) (cdv : Value) (B : Around) (fs : List PySem.Env) (s : Shared) (H : Hp) (E : XK), Cc (cxD P w K mg base N y st f cdv B fs s H E) (wD E) k → DB τ (cxD P w K mg base N y st f cdv B fs s H E) (wD E) (defBody st) b) :
    DefOk τ P w K mg base (k + 1) n x (fnOf N.length b) := by
  obtain ⟨f, oc, od, kV, doc, pm, an, cdv, ct, osl, h1, h2, h3, h4⟩ := Fu.ex
  have F := fun_mk (st := st) h2 h3 h4
  subst hn
  exact ⟨f, _, ps, fk_fn F Sc (body f), h1, h4, F.binds bi⟩
end
section
variable {X : Cx} {W : WX} {k j n : Nat} {a b c e : Expr} {es : List Expr} {fs : Av} {g : Fn} {pos p : Pos} {x : Str}
theorem de_callD (G : DefOk τ X.prog X.w X.K X.mg X.base k n x g) (cc : Cc X W j) (hj : k ≤ j) (hg : Gl X x) (ha : DA τ X W (e :: es) fs) (hdb : (x == ("__debug__" : Str)) = false := by decide) (he : starEach (e :: es) X.env = (false, eval e X.env) :: starEach es X.env := by rfl)
    (hpl : (backTo pos (starEach es X.env)).any (·.1) = false := by rfl) : DE τ X W (.Call (.Name x p) (e :: es) [] pos) (eCallN n g fs) := by
  obtain ⟨f, fd, ps, h1, h2, h3, h4⟩ := G.ex
  exact de_call cc h1 hj hg h2 h3 h4 ha hdb he hpl
theorem de_callD0 (G : DefOk τ X.prog X.w X.K X.mg X.base k n x g) (cc : Cc X W j) (hj : k ≤ j) (hg : Gl X x) (hdb : (x == ("__debug__" : Str)) = false := by decide) : DE τ X W (.Call (.Name x p) [] [] pos) (eCall0 n g) := by
  obtain ⟨f, fd, ps, h1, h2, h3, h4⟩ := G.ex
  exact de_call0 cc h1 hj hg h2 h3 h4 hdb
theorem pmk0 {C : Addr} {bmB : List Value} {B newId initId : String} (F : ExcBaseFacts B newId initId bmB) (q : PySem.W.excIn X.K C bmB newId = true) (gC : X.mg x = some (.ref C)) (kC : PySem.W.keepIn X.K (.ref C) = true) (r : Raises X (.ref C)) (hg : Gl X x)
    (hdb : (x == ("__debug__" : Str)) = false := by decide) : PMk X (.Call (.Name x p) [] [] pos) (fun _ H Q => Q (.ref C) none H) := by
  intro pins s σ H Q I h
  refine wpAny_Call_Name_kw (ld_glob I hg gC ?_ hdb)
  refine PySem.W.callWith_K0 I.kIn kC ?_
  show wpAny _ _ (call (.ref C) []) _ _ _
  obtain ⟨bm, N, nm, qn, bs, hdct, sn, sub, ab, col, dd, k0, k1, k2, k3, k5, mN, hC, hN, hni, T⟩ := exc_obj I.kIn q
  refine wpAny_call_exc_subT F T hC hN hni (fun h' e hm => ?_) (by show 0 ≤ sizeLine; rw [sizeLine_eq]; omega)
  exact mk_of I hm r h (I.hok.gone hm.new)
theorem ds_raise0 {pos2 : Pos} (cc : Cc X W j) (Ex : ExF X.K X.mg x) (hg : Gl X x) (hdb : (x == ("__debug__" : Str)) = false := by decide) : DS τ X W (.Raise (some (.Call (.Name x p) [] [] pos)) none pos2) (sRaise x) := by
  obtain ⟨C, h1, h2, h3, h4, h5⟩ := Ex.ex
  exact ds_raise cc h1 (pmk0 PySem.F.excBase_ValueError h2 h1 h3 (raises_own h4 h5) hg hdb)
end
theorem Cc.hu {X : Cx} {W : WX} {k : Nat} (c : Cc X W k) : X.A.units + 64 < cLine := by
  have := c.rm.units
  omega
structure IntF (mg : Str → Option Value) (x : Str) (i : Int) : Prop where
  ex : ∃ t, mg x = some (.int i t)
structure StrF (mg : Str → Option Value) (x : Str) (z : Str) : Prop where
  ex : ∃ t, mg x = some (.str z t)
section
variable {K : PySem.W.Frag} {mg : Str → Option Value} {h : Heap} {x : Str}
theorem IntF.mk' {i : Int} {t : Tok} (X : K.In h) (G : h.Ns mainGlobals mg) (a : PySem.W.nsIn K mainGlobals x = some (some (.int i t))) : IntF mg x i := ⟨t, PySem.W.mg_of X G a⟩
theorem StrF.mk' {i : Str} {t : Tok} (X : K.In h) (G : h.Ns mainGlobals mg) (a : PySem.W.nsIn K mainGlobals x = some (some (.str i t))) : StrF mg x i := ⟨t, PySem.W.mg_of X G a⟩
end
theorem de_conI {X : Cx} {W : WX} {x : Str} {i : Int} {pos : Pos} (C : IntF X.mg x i) (hg : Gl X x) (hd : (x == ("__debug__" : Str)) = false := by decide) : DE τ X W (.Name x pos) (eD (.int i)) := by
  obtain ⟨t, e⟩ := C.ex
  exact de_con (v := .int i) hg e ⟨t, rfl⟩ (fun _ _ => .int i) hd
theorem de_conS {X : Cx} {W : WX} {x : Str} {i : Str} {pos : Pos} (C : StrF X.mg x i) (hg : Gl X x) (hd : (x == ("__debug__" : Str)) = false := by decide) : DE τ X W (.Name x pos) (eD (.str i)) := by
  obtain ⟨t, e⟩ := C.ex
  exact de_con (v := .str i) hg e ⟨t, rfl⟩ (fun _ _ => .str i) hd
theorem law_end {P : Program} {w : World} {K : PySem.W.Frag} {mg : Str → Option Value} {st : Stmt} {N : List Str} {fa : Addr} {x y : Str} {k : Nat} {b : Sv} {p : Str} (Fu : DefF K mg x y st) (hfa : mg x = some (.ref fa)) (Sc : FnScope N [p] (defScope st))
    (bi : ∀ (kV doc pm : Value) (an : Option Addr) (cdv ct : Value) (s : Shared) (v : Value), BindsTo s (PySem.W.fnOf y y (defArgs st) (defBody st) (defScope st) .none kV doc pm an cdv ct) ⟨[v], []⟩ [(p, v)])
    (body : ∀ (base : Heap) (f : Addr) (cdv : Value) (B : Around) (fs : List PySem.Env) (s : Shared) (H : Hp) (E : XK), Cc (cxD P w K mg base N y st f cdv B fs s H E) (wD E) k → DB τ (cxD P w K mg base N y st f cdv B fs s H E) (wD E) (defBody st) b) :
    ∃ fd : FuncData, (∀ (s : Shared) (u : Value), BindsTo s fd ⟨[u], []⟩ [(p, u)]) ∧ ∀ base : Heap, K.In base → base.Ns mainGlobals mg → Fk P w K mg base (k + 1) fa fd [p] (spN τ K mg 1 (fnOf N.length b)) := by
  obtain ⟨f, oc, od, kV, doc, pm, an, cdv, ct, osl, h1, h2, h3, h4⟩ := Fu.ex
  have e := hfa.symm.trans h1
  cases e
  exact ⟨_, bi kV doc pm an cdv ct, fun base _ _ => fk_fn (fun_mk (st := st) h2 h3 h4) Sc (body base fa)⟩
theorem bb_len : bootBuiltins "len" = some (.builtin "len") := by decide +kernel
theorem bb_abs : bootBuiltins "abs" = some (.builtin "abs") := by decide +kernel
theorem bb_all : bootBuiltins "all" = some (.builtin "all") := by decide +kernel
theorem bb_any : bootBuiltins "any" = some (.builtin "any") := by decide +kernel
theorem bb_min : bootBuiltins "min" = some (.builtin "min") := by decide +kernel
theorem bb_max : bootBuiltins "max" = some (.builtin "max") := by decide +kernel
theorem bb_sum : bootBuiltins "sum" = some (.builtin "sum") := by decide +kernel
theorem bb_sorted : bootBuiltins "sorted" = some (.builtin "sorted") := by decide +kernel
theorem bb_repr : bootBuiltins "repr" = some (.builtin "repr") := by decide +kernel
theorem bb_isinstance : bootBuiltins "isinstance" = some (.builtin "isinstance") := by decide +kernel
theorem bb_enumerate : bootBuiltins "enumerate" = some (.type "enumerate") := by decide +kernel
theorem bb_zip : bootBuiltins "zip" = some (.type "zip") := by decide +kernel
theorem bb_range : bootBuiltins "range" = some (.type "range") := by decide +kernel
theorem bb_int : bootBuiltins "int" = some (.type "int") := by decide +kernel
theorem bb_bool : bootBuiltins "bool" = some (.type "bool") := by decide +kernel
theorem bb_str : bootBuiltins "str" = some (.type "str") := by decide +kernel
theorem bb_list : bootBuiltins "list" = some (.type "list") := by decide +kernel
theorem bb_tuple : bootBuiltins "tuple" = some (.type "tuple") := by decide +kernel
theorem bb_dict : bootBuiltins "dict" = some (.type "dict") := by decide +kernel
theorem bb_set : bootBuiltins "set" = some (.type "set") := by decide +kernel
section
variable {ρ : Env} {S : Store} {i n : Nat} {m : Bool} {fa fb fc f g : Ev} {ga gb t : Tv} {fs : Av} {o o' : Vl → Vl → Store → Res Vl} {u : Vl → Store → Res Vl} {k : Fn} {sa sb : Sv} {it : Iv} {tg : Tg}
@[simp] theorem ap_eVar : eVar i ρ S = match ρ[i]? with
  | some (some v) => .ok v S
  | _ => .bad := rfl
@[simp] theorem ap_eD {x : D} : eD x ρ S = .ok (.d x) S := rfl
@[simp] theorem ap_eTy {x : Ty} : eTy x ρ S = .ok (.ty x) S := rfl
@[simp] theorem ap_eGlo {x : Str} : eGlo x ρ S = .ok (.glo x) S := rfl
@[simp] theorem ap_eBin : eBin o fa fb ρ S = (fa ρ S).bind fun a S1 => (fb ρ S1).bind fun b S2 => o a b S2 := rfl
@[simp] theorem ap_eUn : eUn u fa ρ S = (fa ρ S).bind fun a S1 => u a S1 := rfl
@[simp] theorem ap_aNil : aNil ρ S = .ok [] S := rfl
@[simp] theorem ap_aCons : aCons f fs ρ S = (f ρ S).bind fun v S1 => (fs ρ S1).bind fun vs S2 => .ok (v :: vs) S2 := rfl
@[simp] theorem ap_eFrz : eFrz f ρ S = (f ρ S).bind fun v S1 => (fr v S1).bind fun d S2 => .ok (.d d) S2 := rfl
@[simp] theorem ap_eTup : eTup fs ρ S = (fs ρ S).bind fun vs S1 => (frs vs S1).bind fun ds S2 => if ds.length ≤ 1000 then .ok (.d (.tuple ds)) S2 else .bad := rfl
@[simp] theorem ap_eLst : eLst m fs ρ S = (fs ρ S).bind fun vs S1 => (frs vs S1).bind fun ds S2 => if ds.length ≤ 1000 then mkL m ds S2 else .bad := rfl
@[simp] theorem ap_eCall : eCall k fs ρ S = (fs ρ S).bind fun vs S1 => k vs S1 := rfl
@[simp] theorem ap_eCallN : eCallN n k fs ρ S = (fs ρ S).bind fun vs S1 => if vs.length = n then k vs S1 else .bad := rfl
@[simp] theorem ap_eCall0 : eCall0 n k ρ S = if n = 0 then k [] S else .bad := rfl
@[simp] theorem ap_eIf : eIf t fa fb ρ S = (t ρ S).bind fun b S1 => if b = true then fa ρ S1 else fb ρ S1 := rfl
@[simp] theorem ap_eAnd : eAnd fa fb ρ S = (fa ρ S).bind fun v S1 => match v with
  | .d (.bool c) => if c = true then fb ρ S1 else .ok (.d (.bool false)) S1
  | _ => .bad := rfl
@[simp] theorem ap_eOr : eOr fa fb ρ S = (fa ρ S).bind fun v S1 => match v with
  | .d (.bool c) => if c = true then .ok (.d (.bool true)) S1 else fb ρ S1
  | _ => .bad := rfl
@[simp] theorem ap_eNot : eNot fa ρ S = (fa ρ S).bind fun v S1 => match v with
  | .d (.bool c) => .ok (.d (.bool !c)) S1
  | _ => .bad := rfl
@[simp] theorem ap_tOf : tOf f ρ S = (f ρ S).bind fun v S1 => match v with
  | .d (.bool c) => .ok c S1
  | _ => .bad := rfl
@[simp] theorem ap_tAnd : tAnd ga gb ρ S = (ga ρ S).bind fun c S1 => if c = true then gb ρ S1 else .ok false S1 := rfl
@[simp] theorem ap_tOr : tOr ga gb ρ S = (ga ρ S).bind fun c S1 => if c = true then .ok true S1 else gb ρ S1 := rfl
@[simp] theorem ap_tNot : tNot ga ρ S = (ga ρ S).bind fun c S1 => .ok (!c) S1 := rfl
@[simp] theorem ap_tYesD : tYesD ρ S = .ok true S := rfl
@[simp] theorem ap_eChain : eChain o o' fa fb fc ρ S = (fa ρ S).bind fun a S1 => (fb ρ S1).bind fun b S2 => (o a b S2).bind fun z S3 => match z with
  | .d (.bool k) => if k = true then (fc ρ S3).bind fun c S4 => o' b c S4 else .ok (.d (.bool false)) S3
  | _ => .bad := rfl
@[simp] theorem ap_pNo : pNo ρ S = .ok none S := rfl
@[simp] theorem ap_pAt : pAt f ρ S = (f ρ S).bind fun v S1 => match view S1 v with
  | some (.int i) => .ok (some i) S1
  | _ => .bad := rfl
@[simp] theorem ap_eSl {l h : Pv} : eSl m f l h ρ S = (f ρ S).bind fun v S1 => (l ρ S1).bind fun l S2 => (h ρ S2).bind fun h S3 => slV m v l h S3 := rfl
@[simp] theorem ap_eLc {vs : List Nat} : eLc m it tg t f vs ρ S = (it ρ S).bind fun ds S1 => (lcL tg t f (wipeE ρ vs) ds [] S1).bind fun acc S2 => mkL m acc S2 := rfl
@[simp] theorem ap_iSeq : iSeq f ρ S = (f ρ S).bind fun v S1 => (fr v S1).bind fun d S2 => match seqOf d with
  | some ds => .ok ds S2
  | none => .bad := rfl
@[simp] theorem ap_sNil : sNil ρ S = .nx ρ S := rfl
@[simp] theorem ap_sCons : sCons sa sb ρ S = (sa ρ S).seq sb := rfl
@[simp] theorem ap_sExpr : sExpr f ρ S = (f ρ S).st ρ fun _ S1 => .nx ρ S1 := rfl
@[simp] theorem ap_sAsg : sAsg tg f ρ S = (f ρ S).st ρ fun v S1 => match tg v ρ with
  | some ρ1 => .nx ρ1 S1
  | none => .bad := rfl
@[simp] theorem ap_sSet : sSet i f ρ S = (f ρ S).st ρ fun v S1 => .nx (ρ.set i (some v)) S1 := rfl
@[simp] theorem ap_sPar {gs : List Tg} : sPar gs fs ρ S = (fs ρ S).st ρ fun vs S1 => match gAll gs vs ρ with
  | some ρ1 => .nx ρ1 S1
  | none => .bad := rfl
@[simp] theorem ap_sRet : sRet f ρ S = (f ρ S).st ρ fun v S1 => .ret v S1 := rfl
@[simp] theorem ap_sRetN : sRetN ρ S = .ret (.d .none) S := rfl
@[simp] theorem ap_sIf : sIf t sa sb ρ S = (t ρ S).st ρ fun x S1 => if x = true then sa ρ S1 else sb ρ S1 := rfl
@[simp] theorem ap_sPut : sPut fa fb fc ρ S = (fc ρ S).st ρ fun v S1 => (fr v S1).st ρ fun d S2 => (fa ρ S2).st ρ fun o S3 => (fb ρ S3).st ρ fun i S4 => match o, view S4 i with
  | .loc n, some (.int k) => match S4[n]? with
    | some (.lst xs) => match ixN xs.length k with
      | some j => .nx ρ (S4.set n (.lst (xs.set j d)))
      | none => .bad
    | _ => .bad
  | _, _ => .bad := rfl
@[simp] theorem ap_sBreak : sBreak ρ S = .bk ρ S := rfl
@[simp] theorem ap_sCont : sCont ρ S = .ct ρ S := rfl
@[simp] theorem ap_sFor : sFor it tg sb ρ S = (it ρ S).st ρ fun xs S1 => forL tg sb xs ρ S1 := rfl
@[simp] theorem ap_sRaise {x : Str} : sRaise x ρ S = .ex ⟨x, []⟩ ρ S := rfl
@[simp] theorem ap_gN {v : Vl} : gN i v ρ = some (ρ.set i (some v)) := rfl
@[simp] theorem ap_gAll0 : gAll [] [] ρ = some ρ := rfl
@[simp] theorem ap_gAll1 {gs : List Tg} {v : Vl} {vs : List Vl} : gAll (tg :: gs) (v :: vs) ρ = match tg v ρ with
  | some ρ1 => gAll gs vs ρ1
  | none => none := rfl
@[simp] theorem ap_gT {gs : List Tg} {ds : List D} : gT gs (.d (.tuple ds)) ρ = gAll gs (ds.map Vl.d) ρ := rfl
@[simp] theorem ap_mkF {ds : List D} : mkL false ds S = .ok (.d (.list ds)) S := rfl
@[simp] theorem ap_mkT {ds : List D} : mkL true ds S = .ok (.loc S.length) (S ++ [.lst ds]) := rfl
@[simp] theorem ap_forL0 : forL tg sb [] ρ S = .nx ρ S := rfl
theorem ap_forL1 {x : D} {xs : List D} : forL tg sb (x :: xs) ρ S = match tg (.d x) ρ with
    | none => .bad
    | some ρ1 => match sb ρ1 S with
      | .nx ρ2 S2 => forL tg sb xs ρ2 S2
      | .ct ρ2 S2 => forL tg sb xs ρ2 S2
      | .bk ρ2 S2 => .nx ρ2 S2
      | r => r := rfl
@[simp] theorem ap_lcL0 {acc : List D} : lcL tg t f ρ [] acc S = .ok acc S := rfl
theorem ap_fnOf {vs : List Vl} : fnOf n sb vs S = match sb (vs.map some ++ List.replicate (n - vs.length) none) S with
  | .ret v S1 => leave S.length v S1
  | .nx _ S1 => .ok (.d .none) (S1.take S.length)
  | .ex e _ S1 => .ex e (S1.take S.length)
  | _ => .bad := rfl
@[simp] theorem ap_leave {x : D} : leave n (.d x) S = .ok (.d x) (S.take n) := rfl
@[simp] theorem shal_int {i : Int} : shal (.int i) = true := rfl
@[simp] theorem shal_bool {b : Bool} : shal (.bool b) = true := rfl
@[simp] theorem shal_none : shal .none = true := rfl
@[simp] theorem shal_str {z : Str} : shal (.str z) = true := rfl
end
theorem forL_inv {tg : Tg} {sb : Sv} (I : List D → Env → Store → Prop) (step : ∀ x xs ρ S, I (x :: xs) ρ S → ∃ ρ1 ρ2 S2, tg (.d x) ρ = some ρ1 ∧ (sb ρ1 S = .nx ρ2 S2 ∨ sb ρ1 S = .ct ρ2 S2) ∧ I xs ρ2 S2) :
    ∀ xs ρ S, I xs ρ S → ∃ ρ2 S2, forL tg sb xs ρ S = .nx ρ2 S2 ∧ I [] ρ2 S2
  | [], ρ, S, h => ⟨ρ, S, rfl, h⟩
  | x :: xs, ρ, S, h => by
    obtain ⟨ρ1, ρ2, S2, e1, e2, h2⟩ := step x xs ρ S h
    obtain ⟨ρ3, S3, e3, h3⟩ := forL_inv I step xs ρ2 S2 h2
    refine ⟨ρ3, S3, ?_, h3⟩
    rw [ap_forL1, e1]
    rcases e2 with e2 | e2 <;> simp only [e2] <;> exact e3
theorem lcL_all {tg : Tg} {f : Ev} {ρ : Env} (g : D → D) {S : Store} : ∀ (xs acc : List D), (∀ x ∈ xs, ∃ ρ1, tg (.d x) ρ = some ρ1 ∧ f ρ1 S = .ok (.d (g x)) S) → acc.length + xs.length ≤ 1000 → lcL tg tYesD f ρ xs acc S = .ok (acc ++ xs.map g) S
  | [], acc, _, _ => by simp
  | x :: xs, acc, h, hl => by
    obtain ⟨ρ1, e1, e2⟩ := h x (by simp)
    have hl' : acc.length + (xs.length + 1) ≤ 1000 := hl
    have ih := lcL_all g (S := S) xs (acc ++ [g x]) (fun y hy => h y (by simp [hy])) (by simp; omega)
    have hs : acc.length < sizeLine := Nat.lt_of_lt_of_le (by omega) (line1000 (Nat.le_refl 1000))
    unfold lcL
    simp only [e1, ap_tYesD, noX_ok, bind_ok, if_true, e2, fr_d, hs]
    rw [ih]
    simp
section
variable {S : Store} {m neg : Bool} {i j : Int} {xs : List D} {x y z u v w : D} {a b : Bool}
@[simp] theorem oAdd_int : oAdd m (.d (.int i)) (.d (.int j)) S = .ok (.d (.int (i + j))) S := rfl
@[simp] theorem oSub_int : oSub (.d (.int i)) (.d (.int j)) S = .ok (.d (.int (i - j))) S := rfl
theorem oMul_int (h : mulOk i j = true) : oMul m (.d (.int i)) (.d (.int j)) S = .ok (.d (.int (i * j))) S := by simp [oMul, h]
theorem oDiv_int (h : 0 < j) (h2 : j < 2 ^ 4000) : oDiv (.d (.int i)) (.d (.int j)) S = .ok (.d (.int (i / j))) S := by simp only [oDiv, view_d, h, h2, and_self, if_true]
theorem oMod_int (h : 0 < j) : oMod (.d (.int i)) (.d (.int j)) S = .ok (.d (.int (i % j))) S := by simp only [oMod, view_d, h, if_true]
@[simp] theorem oNeg_int : oNeg (.d (.int i)) S = .ok (.d (.int (-i))) S := rfl
@[simp] theorem oLt_int : oLt (.d (.int i)) (.d (.int j)) S = .ok (.d (.bool (decide (i < j)))) S := rfl
@[simp] theorem oGt_int : oGt (.d (.int i)) (.d (.int j)) S = .ok (.d (.bool (decide (j < i)))) S := rfl
@[simp] theorem oLe_int : oLe (.d (.int i)) (.d (.int j)) S = .ok (.d (.bool (decide (i ≤ j)))) S := rfl
@[simp] theorem oGe_int : oGe (.d (.int i)) (.d (.int j)) S = .ok (.d (.bool (decide (j ≤ i)))) S := rfl
@[simp] theorem eqv_int : PyData.eqv (.int i) (.int j) = decide (i = j) := by
  rw [Bool.eq_iff_iff]
  simp [PyData.eqv]
@[simp] theorem eqv_bool : PyData.eqv (.bool a) (.bool b) = decide (a = b) := by cases a <;> cases b <;> simp [PyData.eqv]
@[simp] theorem oEq_int : oEq (.d (.int i)) (.d (.int j)) S = .ok (.d (.bool (decide (i = j)))) S := by simp [oEq]
@[simp] theorem oNe_int : oNe (.d (.int i)) (.d (.int j)) S = .ok (.d (.bool (!decide (i = j)))) S := by simp [oNe]
@[simp] theorem oEq_bool : oEq (.d (.bool a)) (.d (.bool b)) S = .ok (.d (.bool (decide (a = b)))) S := by simp [oEq]
@[simp] theorem oNe_bool : oNe (.d (.bool a)) (.d (.bool b)) S = .ok (.d (.bool (!decide (a = b)))) S := by simp [oNe]
@[simp] theorem oIs_bool : oIs neg (.d (.bool a)) (.d (.bool b)) S = .ok (.d (.bool (if neg = true then !decide (a = b) else decide (a = b)))) S := rfl
@[simp] theorem fInt_int : fInt [.d (.int i)] S = .ok (.d (.int i)) S := rfl
@[simp] theorem fInt_bool : fInt [.d (.bool a)] S = .ok (.d (.int (if a then 1 else 0))) S := rfl
@[simp] theorem fAbs_int : fAbs [.d (.int i)] S = .ok (.d (.int (i.natAbs : Int))) S := by
  simp only [fAbs, view_d]
  split <;> first | rfl | skip
  all_goals simp_all
  all_goals omega
@[simp] theorem fMax2_int : fMax2 [.d (.int i), .d (.int j)] S = .ok (.d (.int (max i j))) S := by
  simp only [fMax2, view_d]
  congr 3
  omega
@[simp] theorem fMin2_int : fMin2 [.d (.int i), .d (.int j)] S = .ok (.d (.int (min i j))) S := by
  simp only [fMin2, view_d]
  congr 3
  omega
@[simp] theorem fLen_list : fLen [.d (.list xs)] S = .ok (.d (.int xs.length)) S := rfl
@[simp] theorem fLen_tuple : fLen [.d (.tuple xs)] S = .ok (.d (.int xs.length)) S := rfl
theorem atI_nat {α : Type} {xs : List α} {n : Nat} : atI xs (n : Int) = xs[n]? := by
  cases h : xs[n]? with
  | some x => exact L2.atI_nat h
  | none =>
    unfold atI ixN
    have : xs.length ≤ n := by simpa using h
    have h2 : ¬ (n < xs.length) := by omega
    simp [h2]
@[simp] theorem atI_0 {α : Type} {x : α} {xs : List α} : atI (x :: xs) 0 = some x := atI_nat (n := 0)
@[simp] theorem atI_1 {α : Type} {x y : α} {xs : List α} : atI (x :: y :: xs) 1 = some y := atI_nat (n := 1)
@[simp] theorem atI_2 {α : Type} {x y z : α} {xs : List α} : atI (x :: y :: z :: xs) 2 = some z := atI_nat (n := 2)
@[simp] theorem atI_3 {α : Type} {x y z u : α} {xs : List α} : atI (x :: y :: z :: u :: xs) 3 = some u := atI_nat (n := 3)
@[simp] theorem atI_4 {α : Type} {x y z u v : α} {xs : List α} : atI (x :: y :: z :: u :: v :: xs) 4 = some v := atI_nat (n := 4)
@[simp] theorem oIx_list : oIx (.d (.list xs)) (.d (.int i)) S = oPost (atI xs i) S := rfl
@[simp] theorem oIx_tuple : oIx (.d (.tuple xs)) (.d (.int i)) S = oPost (atI xs i) S := rfl
@[simp] theorem oPost_some {d : D} : oPost (some d) S = .ok (.d d) S := rfl
theorem oIx_loc {n : Nat} (h : S[n]? = some (.lst xs)) : oIx (.loc n) (.d (.int i)) S = oPost (atI xs i) S := by simp [oIx, view, h]
end
theorem mulOk_l {i j : Int} (h : i.natAbs < 2 ^ 64) : mulOk i j = true := by simp [mulOk, h]
theorem mulOk_r {i j : Int} (h : j.natAbs < 2 ^ 64) : mulOk i j = true := by simp [mulOk, h]
theorem mulOk_w {i j : Int} (h : i.natAbs < 2 ^ 4000) (h2 : j.natAbs < 2 ^ 4000) : mulOk i j = true := by unfold mulOk; rw [decide_eq_true h, decide_eq_true h2]; simp
def Bd (n : Nat) (i : Int) : Prop := i.natAbs < 2 ^ n
theorem Bd.mono {n m : Nat} {i : Int} (h : Bd n i) (hm : n ≤ m) : Bd m i := Nat.lt_of_lt_of_le h (Nat.pow_le_pow_right (by decide) hm)
theorem Bd.mul {n m : Nat} {i j : Int} (h : Bd n i) (h2 : Bd m j) : Bd (n + m) (i * j) := by
  unfold Bd at *
  rw [Int.natAbs_mul, Nat.pow_add]
  exact Nat.mul_lt_mul'' h h2
theorem Bd.add {n : Nat} {i j : Int} (h : Bd n i) (h2 : Bd n j) : Bd (n + 1) (i + j) := by
  unfold Bd at *
  rw [Nat.pow_succ]
  omega
theorem Bd.sub {n : Nat} {i j : Int} (h : Bd n i) (h2 : Bd n j) : Bd (n + 1) (i - j) := by
  unfold Bd at *
  rw [Nat.pow_succ]
  omega
theorem Bd.ok {n m : Nat} {i j : Int} (h : Bd n i) (h2 : Bd m j) (hn : n ≤ 4000) (hm : m ≤ 4000) : mulOk i j = true := mulOk_w (h.mono hn) (h2.mono hm)
theorem Bd.lt {n : Nat} {i : Int} (h : Bd n i) (hn : n ≤ 4000) : i < 2 ^ 4000 := by
  have q : i.natAbs < 2 ^ 4000 := h.mono hn
  have e : ((2 ^ 4000 : Nat) : Int) = 2 ^ 4000 := by norm_cast
  rw [← e]
  omega
theorem Bd.of {n : Nat} {i : Int} (h : i.natAbs < 2 ^ n) : Bd n i := h
def hand (cs : List Int) (p z s n : Int) : MO := .lst [.list (cs.map .int), .int p, .int z, .int s, .int n]
structure HandOk (cs : List Int) (p z s n : Int) : Prop where
  cs : ∀ c ∈ cs, 0 ≤ c
  p : 0 ≤ p
  z : 0 ≤ z
  s : 0 ≤ s
  n : 0 ≤ n
def Hand (S : Store) : Prop := ∃ cs p z s n, HandOk cs p z s n ∧ S = [hand cs p z s n]
def DrawOk (g : Fn) : Prop := ∀ (size : Int) (S : Store), 0 < size → size < 2 ^ 62 → Hand S → ∃ r S', 0 ≤ r ∧ r < size ∧ Hand S' ∧ g [.loc 0, .d (.int size)] S = .ok (.d (.int r)) S'
def absD : D → D
  | .int i => .int (i.natAbs : Int)
  | d => d
theorem cut63 {ns : List Int} (h : ns.length ≤ 63) : cutD (ns.map PyData.int) none (some 63) = ns.map PyData.int := by
  apply cutD_whole
  rw [HT.sIx_none, show HT.sIx (ns.map PyData.int).length (ns.map PyData.int).length (some 63) = min 63 (ns.map PyData.int).length from HT.sIx_nat _ _ 63]
  refine ⟨rfl, ?_⟩
  rw [List.length_map]
  omega
def IsHand (m : MO) : Prop := ∃ cs p z s n, HandOk cs p z s n ∧ m = hand cs p z s n
def DrawR (g : Fn) : Prop := ∀ (size : Int) (m : MO) (R : Store), 0 < size → size < 2 ^ 62 → IsHand m → ∃ r m', 0 ≤ r ∧ r < size ∧ IsHand m' ∧ g [.loc 0, .d (.int size)] (m :: R) = .ok (.d (.int r)) (m' :: R)
structure Rp (n k : Nat) (d : D) : Prop where
  pl : d.plain = true
  dp : d.depth ≤ k
  sh : d.showable = true
  len : d.shown.length ≤ n
theorem Rp.mono {n m k j : Nat} {d : D} (h : Rp n k d) (h1 : n ≤ m) (h2 : k ≤ j) : Rp m j d := ⟨h.pl, Nat.le_trans h.dp h2, h.sh, Nat.le_trans h.len h1⟩
theorem rp_none : Rp 4 0 .none := ⟨rfl, Nat.le_refl _, rfl, Nat.le_refl _⟩
theorem rp_bool (b : Bool) : Rp 5 0 (.bool b) := ⟨rfl, Nat.le_refl _, rfl, by cases b <;> decide⟩
theorem rp_int {i : Int} (h : Bd 1900 i) : Rp 1921 0 (.int i) := by
  have hl : i.natAbs.log2 < 1920 := by
    have : i.natAbs.log2 ≤ 1900 := log2_lt h
    omega
  exact ⟨rfl, Nat.le_refl _, by simp only [PyData.showable, decide_eq_true_eq]; exact hl, PyProof.Rows.int_text_len_1921 hl⟩
theorem rps_pl {n k : Nat} : ∀ {ds : List D}, (∀ d ∈ ds, Rp n k d) → PyData.plainAll ds = true ∧ PyData.depthAll ds ≤ k ∧ PyData.showableAll ds = true ∧ ((PyData.shownAll ds).map (·.length)).sum ≤ n * ds.length ∧ (PyData.shownAll ds).length = ds.length
  | [], _ => by simp [PyData.plainAll, PyData.depthAll, PyData.showableAll, PyData.shownAll]
  | d :: ds, h => by
    have h1 := h d (by simp)
    obtain ⟨a, b, c, e, f⟩ := rps_pl (ds := ds) fun x hx => h x (by simp [hx])
    refine ⟨by simp [PyData.plainAll, h1.pl, a], ?_, by simp [PyData.showableAll, h1.sh, c], ?_, by simp [PyData.shownAll, f]⟩
    · simp only [PyData.depthAll]
      exact Nat.max_le.mpr ⟨h1.dp, b⟩
    · simp only [PyData.shownAll, List.map_cons, List.sum_cons, List.length_cons, Nat.mul_add, Nat.mul_one]
      have := h1.len
      omega
theorem rp_list {n k : Nat} {ds : List D} (h : ∀ d ∈ ds, Rp n k d) : Rp ((n + 2) * ds.length + 3) (k + 1) (.list ds) := by
  obtain ⟨a, b, c, e, f⟩ := rps_pl h
  refine ⟨by simp [PyData.plain, a], by simp only [PyData.depth]; omega, by simp [PyData.showable, c], ?_⟩
  have := listText_len_le (PyData.shownAll ds)
  simp only [PyData.shown, Nat.add_mul]
  omega
theorem rp_tup {n k : Nat} {ds : List D} (h : ∀ d ∈ ds, Rp n k d) : Rp ((n + 2) * ds.length + 3) (k + 1) (.tuple ds) := by
  obtain ⟨a, b, c, e, f⟩ := rps_pl h
  refine ⟨by simp [PyData.plain, a], by simp only [PyData.depth]; omega, by simp [PyData.showable, c], ?_⟩
  have := tupleText_len_le (PyData.shownAll ds)
  simp only [PyData.shown, Nat.add_mul]
  omega
theorem Rp.shal {n k : Nat} {d : D} (h : Rp n k d) (hk : k ≤ 60) : shal d = true := by
  have := h.dp
  simp only [Dl.shal, h.pl, Bool.true_and, decide_eq_true_eq]
  omega
theorem rp_repr {n k : Nat} {d : D} {S : Store} (h : Rp n k d) (hn : n ≤ 16777216) (hk : k ≤ 60) : fRepr [.d d] S = .ok (.d (.str d.shown)) S := by
  have h1 : d.shown.length ≤ sizeLine := Nat.le_trans h.len (Nat.le_trans hn (by decide))
  simp [fRepr, h.shal hk, h.sh, h1]
theorem eqv_str {x y : Str} : PyData.eqv (.str x) (.str y) = decide (x = y) := by
  rw [Bool.eq_iff_iff]
  simp [PyData.eqv]
@[simp] theorem oEq_str {x y : Str} {S : Store} : oEq (.d (.str x)) (.d (.str y)) S = .ok (.d (.bool (decide (x = y)))) S := by simp [oEq, eqv_str]
@[simp] theorem oNe_str {x y : Str} {S : Store} : oNe (.d (.str x)) (.d (.str y)) S = .ok (.d (.bool (!decide (x = y)))) S := by simp [oNe, eqv_str]
mutual
theorem eqv_refl : ∀ d : D, d.plain = true → PyData.eqv d d = true
  | .none, _ => by simp [PyData.eqv]
  | .bool b, _ => by cases b <;> simp [PyData.eqv]
  | .int _, _ => by simp [PyData.eqv]
  | .str _, _ => by simp [PyData.eqv]
  | .list xs, h => by
    simp only [PyData.eqv]
    exact eqvs_refl xs (by simpa [PyData.plain] using h)
  | .tuple xs, h => by
    simp only [PyData.eqv]
    exact eqvs_refl xs (by simpa [PyData.plain] using h)
  | .dict _, h => by simp [PyData.plain] at h
theorem eqvs_refl : ∀ ds : List D, PyData.plainAll ds = true → PyData.eqvAll ds ds = true
  | [], _ => by simp [PyData.eqvAll]
  | x :: xs, h => by
    have h2 : x.plain = true ∧ PyData.plainAll xs = true := by simpa [PyData.plainAll] using h
    simp [PyData.eqvAll, eqv_refl x h2.1, eqvs_refl xs h2.2]
end
def dq (q : Rat) : D := .tuple [.int q.num, .int q.den]
theorem dq_of {a b : Int} (h : 0 < b) : PyData.tuple [.int (a / Int.gcd a b), .int (b / Int.gcd a b)] = dq (Rat.divInt a b) := by
  have e1 : (Rat.divInt a b).num = a / Int.gcd a b := by rw [Rat.num_divInt, Int.sign_eq_one_of_pos h, Int.one_mul, Int.gcd_comm]
  have e2 : ((Rat.divInt a b).den : Int) = b / Int.gcd a b := by
    rw [Rat.den_divInt, if_neg (by omega), Int.gcd_comm, Int.natCast_ediv, Int.natAbs_of_nonneg (by omega), Int.gcd_comm]
  unfold dq
  rw [e1, e2]
theorem gcd_mod (a b : Int) : Int.gcd b (a % b) = Int.gcd a b := by
  rw [Int.emod_def, Int.gcd_sub_mul_left_right, Int.gcd_comm]
structure Qs (n : Nat) (q : Rat) : Prop where
  num : Bd n q.num
  den : Bd n q.den
theorem Qs.mono {n m : Nat} {q : Rat} (h : Qs n q) (hm : n ≤ m) : Qs m q := ⟨h.num.mono hm, h.den.mono hm⟩
theorem Qs.div {n : Nat} {a b : Int} (ha : Bd n a) (hb : Bd n b) (h : 0 < b) : Qs n (Rat.divInt a b) := by
  constructor
  · rw [Rat.num_divInt, Int.sign_eq_one_of_pos h, Int.one_mul]
    exact Nat.lt_of_le_of_lt (Int.natAbs_ediv_le_natAbs a _) ha
  · rw [Rat.den_divInt, if_neg (by omega)]
    exact Nat.lt_of_le_of_lt (by simp; exact Nat.div_le_self _ _) hb
theorem Qs.rp {n : Nat} {q : Rat} (h : Qs n q) (hn : n ≤ 1900) : Rp 3849 1 (dq q) := rp_tup (n := 1921) (k := 0) (ds := [.int q.num, .int q.den]) fun d hd => by
  simp only [List.mem_cons, List.not_mem_nil, or_false] at hd
  rcases hd with rfl | rfl
  · exact rp_int (h.num.mono hn)
  · exact rp_int (h.den.mono hn)
theorem q_of (x : Rat) : Rat.divInt x.num x.den = x := by simp
theorem den_pos (x : Rat) : (0 : Int) < x.den := by have := x.den_pos; omega
theorem eqv_dq {x y : Rat} : PyData.eqv (dq x) (dq y) = decide (x = y) := by
  rw [Bool.eq_iff_iff]
  simp only [dq, PyData.eqv, PyData.eqvAll, Bool.and_true, decide_eq_true_eq]
  constructor
  · intro h
    simp at h
    exact Rat.ext h.1 (by exact_mod_cast h.2)
  · rintro rfl
    simp
instance {n : Nat} {i : Int} : Decidable (Bd n i) := inferInstanceAs (Decidable (_ < _))
theorem dq_01 : PyData.tuple [.int 0, .int 1] = dq 0 := by simp [dq]
theorem q_sub0 (x : Rat) : x - 0 = x := by grind
theorem num_den (x : Rat) : (x.num : Rat) / ((x.den : Int) : Rat) = x := by rw [← Rat.divInt_eq_div, q_of]
theorem den_ne (x : Rat) : ((x.den : Int) : Rat) ≠ 0 := by
  have := x.den_nz
  simp only [ne_eq, Rat.intCast_eq_zero_iff]
  omega
theorem divInt_den (x : Rat) (k : Int) (h : k ≠ 0) : Rat.divInt x.num (x.den * k) = x / k := by
  rw [Rat.divInt_eq_div, Rat.intCast_mul]
  have h1 := num_den x
  have h2 := den_ne x
  have h3 : (k : Rat) ≠ 0 := by simpa using h
  grind
theorem q_add (x y : Rat) : Rat.divInt (x.num * y.den + y.num * x.den) (x.den * y.den) = x + y := by
  have h1 := x.den_nz
  have h2 := y.den_nz
  rw [← Rat.divInt_add_divInt _ _ (by omega) (by omega), q_of, q_of]
theorem q_sub (x y : Rat) : Rat.divInt (x.num * y.den - y.num * x.den) (x.den * y.den) = x - y := by
  have h1 := x.den_nz
  have h2 := y.den_nz
  rw [← Rat.divInt_sub_divInt _ _ (by omega) (by omega), q_of, q_of]
theorem q_mul (x y : Rat) : Rat.divInt (x.num * y.num) (x.den * y.den) = x * y := by
  rw [← Rat.divInt_mul_divInt, q_of, q_of]
theorem dq_int (a : Int) : PyData.tuple [.int a, .int 1] = dq (a : Rat) := by simp [dq]
theorem dq_sq (a : Int) : PyData.tuple [.int (a * a), .int 1] = dq ((a : Rat) * a) := by rw [dq_int, Rat.intCast_mul]
section
variable {S : Store} {x y : Rat} {n m : Nat}
@[simp] theorem oIx_dq0 : oIx (.d (dq x)) (.d (.int 0)) S = .ok (.d (.int x.num)) S := by simp [dq]
@[simp] theorem oIx_dq1 : oIx (.d (dq x)) (.d (.int 1)) S = .ok (.d (.int x.den)) S := by simp [dq]
theorem shal_dq : shal (dq x) = true := by simp [shal, dq, PyData.plain, PyData.plainAll, PyData.depth, PyData.depthAll]
@[simp] theorem oEq_dq : oEq (.d (dq x)) (.d (dq y)) S = .ok (.d (.bool (decide (x = y)))) S := by simp [oEq, shal_dq, eqv_dq]
@[simp] theorem oNe_dq : oNe (.d (dq x)) (.d (dq y)) S = .ok (.d (.bool (!decide (x = y)))) S := by simp [oNe, shal_dq, eqv_dq]
theorem Qs.int {a : Int} (h : Bd n a) (hn : 1 ≤ n) : Qs n (a : Rat) := ⟨h, by
  show ((a : Rat).den : Int).natAbs < 2 ^ n
  have : (1 : Nat) < 2 ^ n := Nat.one_lt_two_pow (by omega)
  simpa using this⟩
theorem Qs.add (hx : Qs n x) (hy : Qs n y) : Qs (n + n + 1) (x + y) := by
  rw [← q_add]
  exact .div ((hx.num.mul hy.den).add (hy.num.mul hx.den)) ((hx.den.mul hy.den).mono (by omega)) (Int.mul_pos (den_pos x) (den_pos y))
theorem Qs.sub (hx : Qs n x) (hy : Qs n y) : Qs (n + n + 1) (x - y) := by
  rw [← q_sub]
  exact .div ((hx.num.mul hy.den).sub (hy.num.mul hx.den)) ((hx.den.mul hy.den).mono (by omega)) (Int.mul_pos (den_pos x) (den_pos y))
theorem Qs.mul (hx : Qs n x) (hy : Qs n y) : Qs (n + n) (x * y) := by
  rw [← q_mul]
  exact .div (hx.num.mul hy.num) (hx.den.mul hy.den) (Int.mul_pos (den_pos x) (den_pos y))
theorem Qs.divI {k : Int} (hx : Qs n x) (hk : Bd m k) (h : 0 < k) : Qs (n + m) (x / k) := by
  rw [← divInt_den x k (by omega)]
  exact .div (hx.num.mono (by omega)) (hx.den.mul hk) (Int.mul_pos (den_pos x) h)
end
def EnT (K : PySem.W.Frag) (a : Addr) : It where
  go := fun i H => ∃ (xs : List V) (x : V), SqT K H a xs ∧ xs[i]? = some x
  yld := fun i H v H' => ∃ T x, v = .ref T ∧ H T = none ∧ H' = upd H T (.tup [.int (i : Nat), x]) ∧ ∀ xs, SqT K H a xs → xs[i]? = some x
  stop := fun i H => ∃ xs : List V, SqT K H a xs ∧ xs.length ≤ i
theorem turn_enT {P : Program} {w : World} {K : PySem.W.Frag} {elts : List Expr} {kk : Nat} {tpos : Pos} (a e it : Addr) (hai : a ≠ it) (hae : a ≠ e) :
    Turn P w K (.Tuple elts kk tpos) (EnT K a) [e, it] e (fun i h => (∃ old, IsEnum h e it ((i : Nat) : Int) old) ∧ h.IsTupleIter it a i ∧ e ≠ it) where
  mem := by simp
  obj := fun i h ⟨⟨old, he⟩, ⟨o, ho, hc, hd⟩, _⟩ b hb => by
    rcases (by simpa using hb : b = e ∨ b = it) with z | z <;> subst z
    · exact ⟨_, he, fun v q => nomatch q⟩
    · exact ⟨o, ho, fun v q => by rw [hd] at q; cases q⟩
  keep := fun i h h' ⟨⟨old, he⟩, hi, hne⟩ k => ⟨⟨old, k e (by simp) _ he⟩, hi.at fun o q => k it (by simp) o q, hne⟩
  item := by
    intro X hP hw hK hc i pins s σ H E I hf ⟨⟨old, he⟩, hit, hne⟩ ⟨xs, x, hq, hx⟩
    subst hP hw hK
    obtain ⟨its, rv, p, hz⟩ := I.tuple hq
    obtain ⟨u, hu, ru⟩ := rv.get hx
    have hel : e < s.heap.objs.size := Heap.lt_size he
    have hil : it < s.heap.objs.size := by obtain ⟨_, q, _⟩ := hit; exact Heap.lt_size q
    have lt : i < its.toArray.size := by
      have : i < its.length := (List.getElem?_eq_some_iff.mp hu).1
      simpa using this
    have D := Draws.tuple (prog := X.prog) (w := X.w) (A := X.A.in1) (by exact I.ok.hd hc) it a hai its.toArray
    have nf : e ∉ [it, a] := fun z => by
      rcases (by simpa using z : e = it ∨ e = a) with q | q
      · exact hne q
      · exact hae q.symm
    refine wpAny_pyNext_enum_itemD D he ⟨hit, p⟩ lt hne nf fun y h' tk hy ho hst hT hsz hk => ?_
    have ey : y = u := by
      have h2 : its.toArray[i]? = some u := by simpa using hu
      rw [h2] at hy
      exact (Option.some.inj hy).symm
    subst ey
    refine ⟨_, rfl, wpAny_letOwnedTupleGo_enum (s := { s with heap := h', toks := tk + 1 }) ho fun h'' he' sb => ?_⟩
    have hT2 := (sb.2 s.heap.objs.size (Nat.ne_of_gt hel)).trans hT
    have two : (2 : Nat) ≤ sizeLine := by decide
    have new : ObjOk X.prog X.w (upd H s.heap.objs.size (.tup [.int (i : Nat), x])) h'' s.heap.objs.size (.tup [.int (i : Nat), x]) :=
      ⟨two, [.int i tk, y], .cons ⟨_, rfl⟩ (.cons ru .nil), _, hT2, rfl, _, rfl⟩
    have I1 : Inv X pins σ (upd H s.heap.objs.size (.tup [.int (i : Nat), x])) { s with heap := h'', toks := tk + 1 } :=
      I.turnedNew (ch := [e, it]) (fun b ob hb q => (sb.2 b (fun z => hb (by simp [z]))).trans (hk b ob (fun z => hb (by simp [z])) (fun z => hb (by simp [z])) q)) hf (Nat.le_refl _) new
    refine ⟨.ref s.heap.objs.size, _, I1, rfl, ⟨_, x, rfl, I.hok.fresh (Nat.le_refl _), rfl, fun ys hy => by rw [I.tuple_inj hy hq]; exact hx⟩, ⟨⟨y, ?_⟩, hst.1.at fun o q => (sb.2 it (Ne.symm hne)).trans q, hne⟩, fun b hb => ?_⟩
    · rw [show ((i + 1 : Nat) : Int) = (i : Int) + 1 by omega]
      exact he'
    · have hb' : b < s.heap.objs.size := by
        rcases (by simpa using hb : b = e ∨ b = it) with z | z <;> rw [z] <;> assumption
      rw [upd_ne (Nat.ne_of_lt hb')]
      exact (hf b hb).1
  done := by
    intro X hP hw hK hc i pins s σ H E I hf ⟨⟨old, he⟩, hit, hne⟩ ⟨xs, hq, hx⟩
    subst hP hw hK
    obtain ⟨its, rv, p, hz⟩ := I.tuple hq
    obtain ⟨f0, f1, f2, f3, f4, f5⟩ := hf it (by simp)
    have hl := rv.length
    have none_ : its.toArray[i]? = none := by simp; omega
    have D : Draws X.prog X.w X.A.in1 it [it, a] i (fun _ _ => True) fun j h => j = i ∧ h.IsTupleIter it a j ∧ h.IsTuple a its.toArray := {
      live := fun _ _ st => let ⟨o, ho, _⟩ := st.2.1; ⟨o, ho⟩
      frame := fun _ _ _ st hk => ⟨st.1, st.2.1.at fun o e => hk it (by simp) o e, st.2.2.at fun o e => hk a (by simp) o e⟩
      item := fun j s Q E hj st hQ => absurd st.1 (Nat.ne_of_lt hj)
      done := fun s Q E st hE => wpAny_nextOf_tuple_end (by exact I.ok.hd hc) st.2.1 st.2.2 none_ hE }
    exact wpAny_pyNext_enum_endD D he ⟨rfl, hit, p⟩ fun h' eb => ⟨rfl, I.turned (t' := s.toks) (fun b o hb q => eb b o hb q) f0 f1 f3 f4 f5⟩
  self := fun A i s Q E ⟨⟨_, he⟩, _⟩ h => wpAny_pyIter_enum he h
theorem meets_enT (l : Addr) (ob : Obj) (items : Array Value) (n : Nat) (hc : ob.cls = .type "tuple") (hd : ob.data = .seq items n) :
    Meets (Builtin.«enumerate.__new__» ⟨[.type "enumerate", .ref l], []⟩) (fun _ R s => s.heap.get? l = some ob ∧
      R (.ok (.ret (.ref (s.heap.push { cls := .type "tuple_iterator", data := .fields #[.ref l, .int 0 0] }).objs.size)))
        { s with heap := (s.heap.push { cls := .type "tuple_iterator", data := .fields #[.ref l, .int 0 0] }).push { cls := .type "enumerate", data := .fields #[.none, .bool false, .ref s.heap.objs.size, rawInt 0, .none, .none] } }) := by
  obtain ⟨c, dct, dt, sl⟩ := ob
  obtain rfl : c = .type "tuple" := hc
  obtain rfl : dt = .seq items n := hd
  refine .of_wp fun prog w A R s h => ?_
  obtain ⟨hp, g, d, tk, os⟩ := s
  obtain ⟨hl, h⟩ := h
  have sub := sub_enumerate
  have hL : Heap.IsTuple (Shared.heap ⟨hp, g, d, tk, os⟩) l items := ⟨_, hl, rfl, n, rfl⟩
  wp_walk using AutoSeq1.wpAny_loadPart' hl
  refine wpAny_stack_any fun st => wpAny_pure ?_
  split
  · rename_i c _ _ _ _ _
    cases (c == Value.type "enumerate") <;> (wp_walk using AutoSeq1.wpAny_loadPart' hl, wpAny_pyIter_tuple hL; exact ⟨_, rfl, h⟩)
  · wp_walk using AutoSeq1.wpAny_loadPart' hl, wpAny_pyIter_tuple hL
    exact ⟨_, rfl, h⟩
theorem call_enT {prog : Program} {w : World} {A : Around} {E : Value → Shared → Prop} {s : Shared} {l : Addr} {items : Array Value} {Q : Value → Shared → Prop} (hL : s.heap.IsTuple l items)
    (h : ∀ h', IsEnum h' (s.heap.objs.size + 1) s.heap.objs.size 0 .none → h'.IsTupleIter s.heap.objs.size l 0 → h'.objs.size = s.heap.objs.size + 2 → (∀ b o, s.heap.get? b = some o → h'.get? b = some o) → Q (.ref (s.heap.objs.size + 1)) { s with heap := h' }) :
    wpAny (model prog w) A (call (.type "enumerate") [.ref l]) Q E s := by
  obtain ⟨ob, hl, hc, n, hd⟩ := hL
  have m := meets_enT l ob items n hc hd
  refine callType_new F.called_enumerate (by decide) (F.typeCall_enumerate_1 _) (F.newCall_enumerate_1 _) (fun obj => F.args_object_init_2 obj _) F.entry_enumerate_new m ⟨hl, ?_⟩
  generalize ho : ({ cls := .type "tuple_iterator", data := .fields #[.ref l, .int 0 0] } : Obj) = o1
  generalize hn : ({ cls := .type "enumerate", data := .fields #[.none, .bool false, .ref s.heap.objs.size, rawInt 0, .none, .none] } : Obj) = o2
  have hz : (s.heap.push o1).objs.size = s.heap.objs.size + 1 := Heap.size_push ..
  have f2 : o2.isFreed = false := by subst hn; rfl
  have f1 : o1.isFreed = false := by subst ho; rfl
  have g2 := Heap.get?_push_size (s.heap.push o1) (o := o2) f2
  show _ ∧ _
  rw [hz] at g2 ⊢
  refine ⟨⟨o2, g2, by subst hn; rfl⟩, h _ (by subst hn; exact g2) ⟨o1, Heap.get?_push_of_some _ (Heap.get?_push_size _ f1), by subst ho; rfl, by subst ho; rfl⟩ (by rw [Heap.size_push, hz]) fun b o x => Heap.get?_push_of_some _ (Heap.get?_push_of_some _ x)⟩
def jEn (K : PySem.W.Frag) (ta : TA) : TI := fun σ H R => ta σ H fun vs H1 => ∃ a, vs = [.ref a] ∧ (((∃ xs, SqL K H1 a xs) ∧ R (Ite K a) H1) ∨ ((∃ xs, SqT K H1 a xs) ∧ R (EnT K a) H1))
theorem pi_enA {X : Cx} {e : Expr} {ta : TA} {p pos tpos : Pos} {elts : List Expr} {kk : Nat} (hg : Gl X "enumerate") (hm : X.mg "enumerate" = none) (ha : PA X [e] ta) (hs : starEach [e] X.env = [(false, eval e X.env)] := by rfl) :
    PI X (.Tuple elts kk tpos) (.Call (.Name "enumerate" p) [e] [] pos) (jEn X.K ta) := by
  refine ⟨fun pins s σ H R I h => ?_⟩
  refine Call_ (ld_blt I hg hm boot_enumerate (PyProof.Rows.callWith_type1 (thn (ha.run pos pins s σ H _ I h) fun us s1 ⟨vs, H1, I1, r1, a, ex, q1⟩ => ?_) hs rfl))
  subst ex
  cases r1 with
  | cons r rr =>
    cases rr
    cases r
    have fresh : ∀ b ∈ [s1.heap.objs.size + 1, s1.heap.objs.size], FpOk X pins H1 b := fun b hb => by
      have hle : s1.heap.objs.size ≤ b := by
        rcases (by simpa using hb : b = s1.heap.objs.size + 1 ∨ b = s1.heap.objs.size) with z | z <;> omega
      exact I1.fpOk hle (I1.hok.fresh hle)
    rcases q1 with ⟨⟨xs, hq⟩, q⟩ | ⟨⟨xs, hq⟩, q⟩
    · obtain ⟨its, rv, p', hz⟩ := I1.list hq
      exact call_enumerate_list p'.isList fun h' he hit hsz hk => wpAny_pyIter_enum he ⟨_, _, _, _, H1, rfl, I1.kept (t' := s1.toks) hk, turn_enum a (s1.heap.objs.size + 1) s1.heap.objs.size, ⟨⟨.none, he⟩, hit, Nat.succ_ne_self _⟩, fresh, q⟩
    · obtain ⟨its, rv, p', hz⟩ := I1.tuple hq
      have lt : a < s1.heap.objs.size := by
        obtain ⟨_, q, _⟩ := p'
        exact Heap.lt_size q
      exact call_enT p' fun h' he hit hsz hk => wpAny_pyIter_enum he ⟨_, _, _, _, H1, rfl, I1.kept (t' := s1.toks) hk, turn_enT a (s1.heap.objs.size + 1) s1.heap.objs.size (Nat.ne_of_lt lt) (Nat.ne_of_lt (Nat.lt_succ_of_lt lt)), ⟨⟨.none, he⟩, hit, Nat.succ_ne_self _⟩, fresh, q⟩
def enumD (ds : List D) : List D := ds.zipIdx.map fun p => .tuple [.int (p.2 : Nat), p.1]
def zipD (xs ys : List D) : List D := List.zipWith (fun x y => .tuple [x, y]) xs ys
def iEnumD (f : Ev) : Iv := fun ρ S => (f ρ S).bind fun v S1 => (fr v S1).bind fun d S2 => match seqOf d with
  | some ds => .ok (enumD ds) S2
  | none => .bad
def iZipD (f : Av) : Iv := fun ρ S => (f ρ S).bind fun vs S1 => (frs vs S1).bind fun ds S2 => match ds with
  | [.list xs, .list ys] => .ok (zipD xs ys) S2
  | [.tuple xs, .tuple ys] => .ok (zipD xs ys) S2
  | _ => .bad
section
variable {K : PySem.W.Frag} {F : Addr → Prop} {H : Hp} {a b : Addr} {xs ys : List V} {ds es : List D}
theorem enumD_len : (enumD ds).length = ds.length := by simp [enumD]
theorem enumD_get {i : Nat} (h : i < ds.length) : (enumD ds)[i]? = some (.tuple [.int (i : Nat), ds[i]]) := by simp [enumD, h]
theorem yl_enL (hf : F a) (h1 : H a = some (.lst xs)) (h2 : FzAll K F H xs ds) : Yl K F H (Ite K a) (enumD ds) := by
  have at_ : ∀ H', Agree F H H' → SqL K H' a xs := fun H' g => .inl (.inl ((g a hf).trans h1))
  refine ⟨fun i H' hi g => ?_, fun H' g => ⟨xs, at_ H' g, by rw [enumD_len, h2.len]; exact Nat.le_refl _⟩, fun i H' v H'' hi g y => ?_⟩ <;> rw [enumD_len] at hi
  · obtain ⟨v, hv, _⟩ := h2.get (List.getElem?_eq_getElem hi)
    exact ⟨xs, v, at_ H' g, hv⟩
  · obtain ⟨v', hv, fv⟩ := h2.get (List.getElem?_eq_getElem hi)
    obtain ⟨T, x, e1, e2, e3, e4⟩ := y
    have e := e4 xs (at_ H' g)
    rw [hv] at e
    cases e
    exact ⟨_, enumD_get hi, .inr ⟨T, _, _, e1, e2, e3, rfl, .cons (.int _) (.cons fv .nil)⟩⟩
theorem yl_enT (h1 : FqT K F H a xs) (h2 : FzAll K F H xs ds) : Yl K F H (EnT K a) (enumD ds) := by
  have at_ : ∀ H', Agree F H H' → SqT K H' a xs := fun H' g => (h1.ext (fun _ h => h) g).sq
  refine ⟨fun i H' hi g => ?_, fun H' g => ⟨xs, at_ H' g, by rw [enumD_len, h2.len]; exact Nat.le_refl _⟩, fun i H' v H'' hi g y => ?_⟩ <;> rw [enumD_len] at hi
  · obtain ⟨v, hv, _⟩ := h2.get (List.getElem?_eq_getElem hi)
    exact ⟨xs, v, at_ H' g, hv⟩
  · obtain ⟨v', hv, fv⟩ := h2.get (List.getElem?_eq_getElem hi)
    obtain ⟨T, x, e1, e2, e3, e4⟩ := y
    have e := e4 xs (at_ H' g)
    rw [hv] at e
    cases e
    exact ⟨_, enumD_get hi, .inr ⟨T, _, _, e1, e2, e3, rfl, .cons (.int _) (.cons fv .nil)⟩⟩
theorem zipD_len : (zipD ds es).length = min ds.length es.length := by simp [zipD]
theorem zipD_get {i : Nat} (h : i < ds.length) (h2 : i < es.length) : (zipD ds es)[i]? = some (.tuple [ds[i], es[i]]) := by simp [zipD, List.getElem?_zipWith, h, h2]
theorem yl_zipL (hf : F a) (h1 : H a = some (.lst xs)) (h2 : FzAll K F H xs ds) (hf' : F b) (h3 : H b = some (.lst ys)) (h4 : FzAll K F H ys es) : Yl K F H (Itz K a b) (zipD ds es) := by
  have at_ : ∀ H', Agree F H H' → SqL K H' a xs := fun H' g => .inl (.inl ((g a hf).trans h1))
  have bt_ : ∀ H', Agree F H H' → SqL K H' b ys := fun H' g => .inl (.inl ((g b hf').trans h3))
  refine ⟨fun i H' hi g => ?_, fun H' g => ⟨xs, ys, at_ H' g, bt_ H' g, by rw [zipD_len, h2.len, h4.len]; omega⟩, fun i H' v H'' hi g y => ?_⟩ <;> rw [zipD_len] at hi
  · obtain ⟨v, hv, _⟩ := h2.get (List.getElem?_eq_getElem (by omega : i < ds.length))
    obtain ⟨u, hu, _⟩ := h4.get (List.getElem?_eq_getElem (by omega : i < es.length))
    exact ⟨xs, ys, v, u, at_ H' g, bt_ H' g, hv, hu⟩
  · obtain ⟨v', hv, fv⟩ := h2.get (List.getElem?_eq_getElem (by omega : i < ds.length))
    obtain ⟨u', hu, fu⟩ := h4.get (List.getElem?_eq_getElem (by omega : i < es.length))
    obtain ⟨T, x, y, e1, e2, e3, e4, e5⟩ := y
    have e := e4 xs (at_ H' g)
    rw [hv] at e
    cases e
    have e := e5 ys (bt_ H' g)
    rw [hu] at e
    cases e
    exact ⟨_, zipD_get (by omega) (by omega), .inr ⟨T, _, _, e1, e2, e3, rfl, .cons fv (.cons fu .nil)⟩⟩
theorem yl_zipT (h1 : FqT K F H a xs) (h2 : FzAll K F H xs ds) (h3 : FqT K F H b ys) (h4 : FzAll K F H ys es) : Yl K F H (RZ.ItzT K a b) (zipD ds es) := by
  have at_ : ∀ H', Agree F H H' → SqT K H' a xs := fun H' g => (h1.ext (fun _ h => h) g).sq
  have bt_ : ∀ H', Agree F H H' → SqT K H' b ys := fun H' g => (h3.ext (fun _ h => h) g).sq
  refine ⟨fun i H' hi g => ?_, fun H' g => ⟨xs, ys, at_ H' g, bt_ H' g, by rw [zipD_len, h2.len, h4.len]; omega⟩, fun i H' v H'' hi g y => ?_⟩ <;> rw [zipD_len] at hi
  · obtain ⟨v, hv, _⟩ := h2.get (List.getElem?_eq_getElem (by omega : i < ds.length))
    obtain ⟨u, hu, _⟩ := h4.get (List.getElem?_eq_getElem (by omega : i < es.length))
    exact ⟨xs, ys, v, u, at_ H' g, bt_ H' g, hv, hu⟩
  · obtain ⟨v', hv, fv⟩ := h2.get (List.getElem?_eq_getElem (by omega : i < ds.length))
    obtain ⟨u', hu, fu⟩ := h4.get (List.getElem?_eq_getElem (by omega : i < es.length))
    obtain ⟨T, x, y, e1, e2, e3, e4, e5⟩ := y
    have e := e4 xs (at_ H' g)
    rw [hv] at e
    cases e
    have e := e5 ys (bt_ H' g)
    rw [hu] at e
    cases e
    exact ⟨_, zipD_get (by omega) (by omega), .inr ⟨T, _, _, e1, e2, e3, rfl, .cons fv (.cons fu .nil)⟩⟩
end
section
variable {X : Cx} {W : WX} {c d : Expr} {f f' : Ev} {p pos tpos : Pos} {elts : List Expr} {kk : Nat}
theorem di_enum (hg : Gl X "enumerate") (hm : X.mg "enumerate" = none) (h : DA τ X W [c] (aCons f aNil)) (hs : starEach [c] X.env = [(false, eval c X.env)] := by rfl) : DI τ X W (.Tuple elts kk tpos) (.Call (.Name "enumerate" p) [c] [] pos) (iEnumD f) :=
  ⟨PI.mono (pi_enA hg hm h.r hs) fun σ H R ⟨φ, F, ρ, S, g, sl, q⟩ => by
    refine ⟨φ, F, ρ, S, g, sl, ?_⟩
    unfold iEnumD at q
    unfold aCons aNil
    have q2 : PostG τ X.K X.mg (RepY X.K) (fun c od H' => W c od σ H') S.length φ F H R (((f ρ S).bind fun v S1 => Res.ok [v] S1).bind fun vs S1 => match vs with
      | [v] => (fr v S1).bind fun d S2 => match seqOf d with
        | some ds => .ok (enumD ds) S2
        | none => .bad
      | _ => .bad) := by
      cases e : f ρ S <;> (rw [e] at q; exact q)
    refine PostG.bind g q2 fun φ1 F1 H1 S1 vs xs nw1 r1 p1 => ?_
    cases vs with
    | nil => exact p1.elim
    | cons v vs =>
      cases vs with
      | cons _ _ => exact p1.elim
      | nil =>
        obtain ⟨x, rfl, rx⟩ := reps1 r1
        dsimp only at p1
        have hne : fr v S1 ≠ .bad := fun e => by rw [e] at p1; exact p1
        obtain ⟨φ2, F2, S2, d, nw2, f2, e2⟩ := fr_ok nw1.sg rx hne
        rw [e2] at p1
        have p2 := PostG.start nw1.sg nw2 p1
        cases d <;> first | exact p2.elim | skip
        · cases f2 with
          | lst h1 h2 h3 => exact ⟨_, rfl, .inl ⟨⟨_, .inl (.inl h2)⟩, p2 _ _ _ (.refl nw2.sg) _ (yl_enL h1 h2 h3)⟩⟩
        · cases f2 with
          | tup h1 h2 => exact ⟨_, rfl, .inr ⟨⟨_, h1.sq⟩, p2 _ _ _ (.refl nw2.sg) _ (yl_enT h1 h2)⟩⟩⟩
theorem di_zip {fs : Av} (hg : Gl X "zip") (hm : X.mg "zip" = none) (h : DA τ X W [c, d] fs) (hs : starEach [c, d] X.env = (false, eval c X.env) :: starEach [d] X.env := by rfl) (hpl : (backTo pos (starEach [d] X.env)).any (·.1) = false := by rfl) : DI τ X W (.Tuple elts kk tpos) (.Call (.Name "zip" p) [c, d] [] pos) (iZipD fs) :=
  ⟨PI.mono (RZ.pi_zipA hg hm h.r hs hpl) fun σ H R ⟨φ, F, ρ, S, g, sl, q⟩ => by
    refine ⟨φ, F, ρ, S, g, sl, PostG.bind g q fun φ1 F1 H1 S1 vs xs nw1 r1 p1 => ?_⟩
    obtain ⟨φ2, F2, S2, ds, nw2, f2, p2⟩ := frs_ok (k := fun ds S2 => (match ds with
      | [.list xs, .list ys] => .ok (zipD xs ys) S2
      | [.tuple xs, .tuple ys] => .ok (zipD xs ys) S2
      | _ => .bad : Res (List D))) nw1.sg r1 p1
    have p3 := PostG.start nw1.sg nw2 p2
    split at p3
    · cases f2 with
      | cons fa t => cases t with
        | cons fb t => cases t with
          | nil => cases fa with
            | lst h1 h2 h3 => cases fb with
              | lst h4 h5 h6 => exact ⟨_, _, _, _, rfl, .inl ⟨.inl (.inl h2), .inl (.inl h5), p3 _ _ _ (.refl nw2.sg) _ (yl_zipL h1 h2 h3 h4 h5 h6)⟩⟩
    · cases f2 with
      | cons fa t => cases t with
        | cons fb t => cases t with
          | nil => cases fa with
            | tup h1 h2 => cases fb with
              | tup h4 h5 => exact ⟨_, _, _, _, rfl, .inr ⟨h1.sq, h4.sq, p3 _ _ _ (.refl nw2.sg) _ (yl_zipT h1 h2 h4 h5)⟩⟩
    · exact p3.elim⟩
end
def isLst (S : Store) (v : Vl) : Bool := match v with
  | .loc n => match S[n]? with
    | some (.lst _) => true
    | _ => false
  | _ => false
def putApp (o : Vl) (d : D) (S : Store) : Res Vl := match o with
  | .loc n => match S[n]? with
    | some (.lst xs) => if xs.length < sizeLine then .ok (.d .none) (S.set n (.lst (xs ++ [d]))) else .bad
    | _ => .bad
  | _ => .bad
def eApp (fo fe : Ev) : Ev := fun ρ S => (fo ρ S).bind fun o S1 => if isLst S1 o = true then (fe ρ S1).bind fun v S2 => (fr v S2).bind fun d S3 => putApp o d S3 else .bad
def putExt (o : Vl) (v : Vl) (S : Store) : Res Vl := match o, view S v with
  | .loc n, some (.list ys) => match S[n]? with
    | some (.lst xs) => if xs.length + ys.length ≤ sizeLine then .ok (.d .none) (S.set n (.lst (xs ++ ys))) else .bad
    | _ => .bad
  | _, _ => .bad
def eExt (fo fe : Ev) : Ev := fun ρ S => (fo ρ S).bind fun o S1 => if isLst S1 o = true then (fe ρ S1).bind fun v S2 => putExt o v S2 else .bad
section
variable {X : Cx} {W : WX} {o e : Expr} {fo fe : Ev} {apos cpos : Pos}
theorem ty_loc {K : PySem.W.Frag} {mg : Str → Option Value} {φ : Nat → Addr} {F : Addr → Prop} {H : Hp} {S : Store} {v : Vl} {x : V} (g : SG τ K φ F H S) (r : RepV K mg φ F H S.length x v) (h : isLst S v = true) : tyV K "list" x H := by
  unfold isLst at h
  split at h
  · split at h
    · rename_i n xs q
      obtain ⟨_, rfl⟩ := r
      obtain ⟨_, ys, h1, _⟩ := g.obj _ _ q
      exact .inl ⟨rfl, ys, .inl (.inl h1)⟩
    · cases h
  · cases h
theorem da_one {fs : Ev} {σ : L2.St} {H : Hp} {Q : List V → Hp → Prop} (h : ∃ φ F ρ S, SG τ X.K φ F H S ∧ Slots X.K X.mg φ F H S.length σ ρ ∧ Post τ X.K X.mg (fun c od H' => W c od σ H') S.length φ F H (fun v H1 => Q [v] H1) (fs ρ S)) : RA τ X.K X.mg W (aCons fs aNil) σ H Q := by
  obtain ⟨φ, F, ρ, S, g, sl, p⟩ := h
  refine ⟨φ, F, ρ, S, g, sl, ?_⟩
  unfold aCons aNil
  cases e : fs ρ S with
  | bad => rw [e] at p; exact p
  | ex x S1 => rw [e] at p; exact p
  | ok v S1 =>
    rw [e] at p
    intro φ1 F1 H1 nw xs r
    obtain ⟨x, rfl, rx⟩ := reps1 r
    exact p _ _ _ nw x rx
theorem de_append (ho : DE τ X W o fo) (ha : DA τ X W [e] (aCons fe aNil)) (hbase : attributeBase o "append" X.env (eval o X.env) = eval o X.env := by rfl)
    (hfew : ((backTo cpos (starEach [e] X.env)).all (fun x => !x.1) && (backToKw cpos (keywordEach [] X.env)).all (fun x => x.1.isSome) && decide ([e].length + ([] : List Keyword).length + (if ([] : List Keyword).isEmpty then 0 else 1) < 30)) = true := by rfl)
    (hline : (apos.endLine == cpos.line) = true := by rfl) (hs : starEach [e] X.env = (false, eval e X.env) :: starEach [] X.env := by rfl) (hplain : (backTo cpos (starEach [] X.env)).any (·.1) = false := by rfl) :
    DE τ X W (.Call (.Attribute o "append" apos) [e] [] cpos) (eApp fo fe) :=
  ⟨PE.mono (pe_bm PySem.F.plainAttrs_list PySem.F.slot_list_append PySem.F.type_list_append mt_append ho.r ha.r hbase hfew hline hs hplain) fun σ H Q ⟨φ, F, ρ, S, g, sl, p⟩ =>
    ⟨φ, F, ρ, S, g, sl, PostG.bind g p fun φ1 F1 H1 S1 v x nw1 r1 p1 => by
      by_cases hl : isLst S1 v = true
      · rw [if_pos hl] at p1
        refine ⟨ty_loc nw1.sg r1 hl, da_one ⟨φ1, F1, ρ, S1, nw1.sg, sl.now nw1, PostG.bind nw1.sg p1 fun φ2 F2 H2 S2 u y nw2 r2 p2 => ?_⟩⟩
        have hne : fr u S2 ≠ .bad := fun e => by rw [e] at p2; exact p2
        obtain ⟨φ3, F3, S3, d, nw3, f3, e3⟩ := fr_ok nw2.sg r2 hne
        rw [e3, bind_ok] at p2
        have p3 := PostG.start nw2.sg nw3 p2
        unfold putApp at p3
        split at p3
        · rename_i n
          split at p3
          · rename_i xs q
            by_cases hz : xs.length < sizeLine
            · rw [if_pos hz] at p3
              obtain ⟨h0, ys, h1, h2⟩ := nw3.sg.obj n _ q
              obtain ⟨hn, rfl⟩ := ((r1.now nw2).now nw3)
              refine ⟨_, ys, y, rfl, rfl, h1, by rw [h2.len]; exact hz, ?_⟩
              have nw4 := nw3.sg.write (o := .lst (ys ++ [y])) (mo := .lst (xs ++ [d])) q rfl fun nf same => ⟨nf, _, upd_same, (h2.append (.cons f3 .nil)).ext (fun _ h => h) same⟩
              exact PostG.start nw3.sg nw4 p3 _ _ _ (.refl nw4.sg) _ .non
            · rw [if_neg hz] at p3; exact p3.elim
          · exact p3.elim
        · exact p3.elim
      · rw [if_neg hl] at p1; exact p1.elim⟩⟩
theorem de_extend (ho : DE τ X W o fo) (ha : DA τ X W [e] (aCons fe aNil)) (hbase : attributeBase o "extend" X.env (eval o X.env) = eval o X.env := by rfl)
    (hfew : ((backTo cpos (starEach [e] X.env)).all (fun x => !x.1) && (backToKw cpos (keywordEach [] X.env)).all (fun x => x.1.isSome) && decide ([e].length + ([] : List Keyword).length + (if ([] : List Keyword).isEmpty then 0 else 1) < 30)) = true := by rfl)
    (hline : (apos.endLine == cpos.line) = true := by rfl) (hs : starEach [e] X.env = (false, eval e X.env) :: starEach [] X.env := by rfl) (hplain : (backTo cpos (starEach [] X.env)).any (·.1) = false := by rfl) :
    DE τ X W (.Call (.Attribute o "extend" apos) [e] [] cpos) (eExt fo fe) :=
  ⟨PE.mono (pe_bm PySem.F.plainAttrs_list PySem.F.slot_list_extend PySem.F.type_list_extend mt_extend ho.r ha.r hbase hfew hline hs hplain) fun σ H Q ⟨φ, F, ρ, S, g, sl, p⟩ =>
    ⟨φ, F, ρ, S, g, sl, PostG.bind g p fun φ1 F1 H1 S1 v x nw1 r1 p1 => by
      by_cases hl : isLst S1 v = true
      · rw [if_pos hl] at p1
        refine ⟨ty_loc nw1.sg r1 hl, da_one ⟨φ1, F1, ρ, S1, nw1.sg, sl.now nw1, PostG.bind nw1.sg p1 fun φ2 F2 H2 S2 u y nw2 r2 p2 => ?_⟩⟩
        unfold putExt at p2
        split at p2
        · rename_i n zs q0
          split at p2
          · rename_i xs q
            by_cases hz : xs.length + zs.length ≤ sizeLine
            · rw [if_pos hz] at p2
              obtain ⟨b, ws, rfl, h3, h4⟩ := ob_of nw2.sg r2 q0
              obtain ⟨h0, ys, h1, h2⟩ := nw2.sg.obj n _ q
              obtain ⟨hn, rfl⟩ := (r1.now nw2)
              refine ⟨_, b, ys, ws, rfl, rfl, h1, h3, by rw [h2.len, h4.len]; exact hz, ?_⟩
              have nw4 := nw2.sg.write (o := .lst (ys ++ ws)) (mo := .lst (xs ++ zs)) q rfl fun nf same => ⟨nf, _, upd_same, (h2.append h4).ext (fun _ h => h) same⟩
              exact PostG.start nw2.sg nw4 p2 _ _ _ (.refl nw4.sg) _ .non
            · rw [if_neg hz] at p2; exact p2.elim
          · exact p2.elim
        · exact p2.elim
      · rw [if_neg hl] at p1; exact p1.elim⟩⟩
end
def fSum1 : Fn := fun vs S => match vs with
  | [v] => match view S v with
    | some (.list ds) => match intsOf ds with
      | some ns => .ok (.d (.int ns.sum)) S
      | none => .bad
    | _ => .bad
  | _ => .bad
theorem ok_sum1 {K : PySem.W.Frag} {mg : Str → Option Value} : CallOk τ K mg (rSum K) fSum1 := by
  intro φ F H S xs vs Q W g r p
  unfold fSum1 at p
  split at p
  · rename_i v
    obtain ⟨x, rfl, r1⟩ := reps1 r
    split at p
    · rename_i ds e
      obtain ⟨a, ys, rfl, h1, h2⟩ := ob_of g r1 e
      split at p
      · rename_i ns en
        have ey := intsOf_fz en h2
        subst ey
        exact ⟨a, ns, rfl, .inl (.inl h1), Post.ok g p (.int _)⟩
      · exact p.elim
    · exact p.elim
  · exact p.elim
def eRevL (m : Bool) (f : Ev) : Ev := fun ρ S => (f ρ S).bind fun v S1 => match view S1 v with
  | some (.list ds) => mkL m ds.reverse S1
  | _ => .bad
theorem FzAll.rev {K : PySem.W.Frag} {F : Addr → Prop} {H : Hp} : ∀ {xs : List V} {ds : List D}, FzAll K F H xs ds → FzAll K F H xs.reverse ds.reverse
  | _, _, .nil => .nil
  | _, _, .cons h t => by
    rw [List.reverse_cons, List.reverse_cons]
    exact (FzAll.rev t).append (.cons h .nil)
theorem de_revL {X : Cx} {W : WX} {e : Expr} {f : Ev} {k : Nat} {p1 p2 p3 pos : Pos} (m : Bool) (h : DE τ X W e f) : DE τ X W (.Subscript e (.Slice none none (some (.UnaryOp .USub (.Constant (.int 1) k p1) p2)) p3) pos) (eRevL m f) :=
  ⟨PE.mono (pe_revL h.r) fun σ H Q ⟨φ, F, ρ, S, g, sl, p⟩ => ⟨φ, F, ρ, S, g, sl, PostG.bind g p fun φ1 F1 H1 S1 v x nw1 r1 p1 => by
    split at p1
    · rename_i ds e
      obtain ⟨a, ys, rfl, h1, h2⟩ := ob_of nw1.sg r1 e
      exact ⟨a, ys, rfl, .inl (.inl h1), Post.newL nw1.sg h2.rev p1⟩
    · exact p1.elim⟩⟩
section
variable {ρ : Env} {S : Store} {f g : Ev} {fs : Av} {m : Bool}
@[simp] theorem ap_eApp : eApp f g ρ S = (f ρ S).bind fun o S1 => if isLst S1 o = true then (g ρ S1).bind fun v S2 => (fr v S2).bind fun d S3 => putApp o d S3 else .bad := rfl
@[simp] theorem ap_eExt : eExt f g ρ S = (f ρ S).bind fun o S1 => if isLst S1 o = true then (g ρ S1).bind fun v S2 => putExt o v S2 else .bad := rfl
@[simp] theorem ap_eRevL : eRevL m f ρ S = (f ρ S).bind fun v S1 => match view S1 v with
  | some (.list ds) => mkL m ds.reverse S1
  | _ => .bad := rfl
@[simp] theorem ap_iEnumD : iEnumD f ρ S = (f ρ S).bind fun v S1 => (fr v S1).bind fun d S2 => match seqOf d with
  | some ds => .ok (enumD ds) S2
  | none => .bad := rfl
@[simp] theorem ap_iZipD : iZipD fs ρ S = (fs ρ S).bind fun vs S1 => (frs vs S1).bind fun ds S2 => match ds with
  | [.list xs, .list ys] => .ok (zipD xs ys) S2
  | [.tuple xs, .tuple ys] => .ok (zipD xs ys) S2
  | _ => .bad := rfl
end
section
variable {prog : Program} {w : World} {A : Around} {E : Value → Shared → Prop} {s : Shared}
theorem cut_back {sl : Addr} {vl vu vs : Value} {n : Nat} {Q : Int × Int × Nat → Shared → Prop} (hs : s.heap.IsSliceOf sl vl vu vs) (pl : IsPart vl none) (pu : IsPart vu none) (ps : IsPart vs (some (-1)))
    (h : Q ((n : Int) - 1, -1, n) s) : wpAny (model prog w) A (Builtin.Slice.sliceApplied (.ref sl) (pure (n : Int))) Q E s := by
  obtain ⟨os, hos, hcs, hds⟩ := id hs
  unfold Builtin.Slice.sliceApplied Builtin.Slice.sliceFields
  refine wpAny_bind (wpAny_bind (wpAny_field hos hds (x := vl) rfl (wpAny_bind (wpAny_field hos hds (x := vu) rfl (wpAny_bind (wpAny_field hos hds (x := vs) rfl (wpAny_pure ?_)))))))
  refine wpAny_bind (HT.slicePart_ ps ?_)
  show wpAny _ _ (if ((-1 : Int) == 0) = true then _ else _) _ _ s
  rw [if_neg (by decide)]
  refine wpAny_bind (HT.slicePart_ pl (wpAny_bind (HT.slicePart_ pu (wpAny_bind (wpAny_pure ?_)))))
  have e1 : Builtin.Slice.sliceAdjust none none (-1) (n : Int) = ((n : Int) - 1, -1) := by
    unfold Builtin.Slice.sliceAdjust
    simp
  have e2 : Builtin.Slice.slicePlaces ((n : Int) - 1) (-1) (-1) = n := by
    unfold Builtin.Slice.slicePlaces
    simp
    omega
  show wpAny _ _ (match Builtin.Slice.sliceAdjust none none (-1) (n : Int) with | (lo, hi) => pure (lo, (-1 : Int), Builtin.Slice.slicePlaces lo hi (-1))) _ _ s
  rw [e1]
  show wpAny _ _ (pure ((n : Int) - 1, (-1 : Int), Builtin.Slice.slicePlaces ((n : Int) - 1) (-1) (-1))) _ _ s
  rw [e2]
  exact wpAny_pure h
theorem pick_back (xs : Array Value) : ((List.range xs.size).filterMap fun (m : Nat) => xs[((xs.size : Int) - 1 + (m : Int) * -1).toNat]?).toArray = xs.toList.reverse.toArray := by
  rw [← PySem.W.krv_pick]
  unfold slicePick
  rw [PySem.W.krv_bounds]
  show _ = ((sliceRange ((xs.size : Int) - 1) (-1) (-1)).filterMap (xs[·]?)).toArray
  rw [PySem.W.krv_sliceRange]
  have e : (List.range xs.size).map (fun k => xs.size - 1 - k) = (List.range xs.size).map fun (m : Nat) => ((xs.size : Int) - 1 + (m : Int) * -1).toNat := List.map_congr_left fun m hm => by
    have := List.mem_range.mp hm
    omega
  rw [e, List.filterMap_map]
  rfl
theorem item_back {t sl : Addr} {items : Array Value} {vl vu vs : Value} {Q : Value → Shared → Prop} (ht : IsTup s.heap t items) (hs : s.heap.IsSliceOf sl vl vu vs) (pl : IsPart vl none) (pu : IsPart vu none) (ps : IsPart vs (some (-1)))
    (h : Q (.ref s.heap.objs.size) { s with heap := s.heap.push { cls := .type "tuple", data := .seq items.toList.reverse.toArray } }) (hsz : items.size ≤ sizeLine) : wpAny (model prog w) A (getItem (.ref t) (.ref sl)) Q E s := by
  have big : sizeOk (.seq items.toList.reverse.toArray) := by
    show items.toList.reverse.toArray.size ≤ sizeLine
    simpa using hsz
  obtain ⟨os, hos, hcs, hds⟩ := id hs
  have hTs : s.TypeIs (.ref sl) "slice" := ⟨os, hos, hcs⟩
  unfold getItem
  try with_reducible refine wpAny_holding ?_
  first | refine wpAny_bind (wpAny_pure ?_) | skip
  refine wpAny_bind (wpAny_sequenceKey ht.typeIs (by decide) ?_)
  refine wpAny_bind (wpAny_callSpecial?_slot (name := Str.ofString "__getitem__") ht.typeIs PyProof.Rows.slot_tuple_getitem (wpAny_call_entry PyProof.Rows.slot_tuple_getitem ht.typeIs PyProof.Rows.entry_tuple_getitem ?_ (PyProof.Rows.args_tuple_getitem _ _)))
  show wpAny _ _ (Builtin.Tuple.tupleItemsOf (.ref t) >>= _) _ _ s
  refine wpAny_bind (PyProof.Rows.tupleItemsOf_ ht (wpAny_bind (wpAny_typeOf hTs ?_)))
  rw [if_pos (by decide)]
  refine wpAny_bind (cut_back hs pl pu ps ?_)
  have hno : ¬ ((((items.size : Int) - 1 : Int) == 0 && (-1 : Int) == 1 && items.size == items.size) = true) := by simp
  show wpAny _ _ (if ((((items.size : Int) - 1 : Int) == 0 && (-1 : Int) == 1 && items.size == items.size) = true) then _ else _) _ _ s
  rw [if_neg hno, pick_back]
  first
    | exact wpAny_bind (m := Builtin.Tuple.tupleExact _) (wpAny_newObj_type (wpAny_pure ⟨_, rfl, wpAny_pure h⟩) big)
    | exact wpAny_bind (m := Builtin.Tuple.tupleExact _) (wpAny_newObj_type (wpAny_bind (wpAny_pure (wpAny_pure ⟨_, rfl, wpAny_pure h⟩))) big)
    | exact wpAny_bind (wpAny_bind (m := Builtin.Tuple.tupleExact _) (wpAny_newObj_type (wpAny_pure (wpAny_pure ⟨_, rfl, wpAny_pure h⟩)) big))
    | exact wpAny_bind (wpAny_bind (m := Builtin.Tuple.tupleExact _) (wpAny_newObj_type (wpAny_pure ⟨_, rfl, wpAny_pure h⟩) big))
end
def tRevA (K : PySem.W.Frag) (te : TE) : TE := fun σ H Q => te σ H fun x H1 => ∃ a xs, x = .ref a ∧ ((SqL K H1 a xs ∧ ∀ p, H1 p = none → Q (.ref p) (upd H1 p (.lst xs.reverse))) ∨ (SqT K H1 a xs ∧ ∀ p, H1 p = none → Q (.ref p) (upd H1 p (.tup xs.reverse))))
theorem pe_revA {X : Cx} {e : Expr} {te : TE} {k : Nat} {p1 p2 p3 pos : Pos} (he : PE X e te) : PE X (.Subscript e (.Slice none none (some (.UnaryOp .USub (.Constant (.int 1) k p1) p2)) p3) pos) (tRevA X.K te) := by
  refine ⟨fun pins s σ H Q I h => ?_⟩
  refine Subscript_ (thn (he.run pins s σ H _ I h) fun v s1 ⟨x, H1, I1, r1, a, xs, ex, q1⟩ => ?_)
  subst ex
  cases r1
  have back : PO X (some (.UnaryOp .USub (.Constant (.int 1) k p1) p2)) (tPart (tUn (rU fun i => .int (-i)) (tC (.int 1)))) := po_some (pe_un un_neg pe_int)
  refine wpAny_Slice (thn (po_none.run pins s1 σ H1 (fun o H2 => o = none ∧ H2 = H1) I1 ⟨rfl, rfl⟩) fun vl s2 ⟨l, H2, I2, pl, el, e2⟩ => ?_)
  subst el e2
  refine thn (po_none.run pins s2 σ H2 (fun o H3 => o = none ∧ H3 = H2) I2 ⟨rfl, rfl⟩) fun vu s3 ⟨u, H3, I3, pu, eu, e3⟩ => ?_
  subst eu e3
  refine thn (back.run pins s3 σ H3 (fun o H4 => o = some (-1) ∧ H4 = H3) I3 ⟨1, rfl, -1, rfl, rfl, rfl⟩) fun vs s4 ⟨o, H4, I4, ps, eo, e4⟩ => ?_
  subst eo e4
  have I5 : Inv X pins σ H4 { s4 with heap := s4.heap.push { cls := .type "slice", data := .fields #[vl, vu, vs] } } := I4.kept (t' := s4.toks) fun b ob q => Heap.get?_push_of_some _ q
  show wpAny (model X.prog X.w) X.A (subscriptTail e (.Slice none none (some (.UnaryOp .USub (.Constant (.int 1) k p1) p2)) p3) (.ref a) (.ref s4.heap.objs.size)) (EP X pins σ Q) X.xe { s4 with heap := s4.heap.push { cls := .type "slice", data := .fields #[vl, vu, vs] } }
  rcases q1 with ⟨hx, q⟩ | ⟨hx, q⟩
  · obtain ⟨its, r, ht, hz⟩ := I5.list hx
    have hl := r.length
    refine tail_any (ops := [.ref a, .ref s4.heap.objs.size]) ht.isList.typeIs (PySem.slot_list_getitem.lookup) ?_ (by with_unfolding_all rfl)
    refine wpAny_getItem_list_slice ht.isList (Heap.IsSliceOf.new _ vl vu vs) pl pu ps (by decide) ?_ (by rw [List.size_toArray]; omega)
    rw [PySem.W.krv_pick]
    exact ⟨.ref _, _, I5.laid (t' := s4.toks) (o := .lst xs.reverse) (fun b ob q => Heap.get?_push_of_some _ q) (Nat.le_refl _) ⟨by rw [List.length_reverse]; exact hz, _, 0, r.reverse, Heap.get?_push_size _ rfl⟩, rfl, q _ (I5.hok.fresh (Nat.le_refl _))⟩
  · obtain ⟨its, r, ht, hz⟩ := I5.tuple hx
    have hl := r.length
    refine tail_any (ops := [.ref a, .ref s4.heap.objs.size]) ht.typeIs PyProof.Rows.slot_tuple_getitem.lookup ?_ (by with_unfolding_all rfl)
    refine item_back ht (Heap.IsSliceOf.new _ vl vu vs) pl pu ps ?_ (by rw [List.size_toArray]; omega)
    exact ⟨.ref _, _, I5.laid (t' := s4.toks) (o := .tup xs.reverse) (fun b ob q => Heap.get?_push_of_some _ q) (Nat.le_refl _) ⟨by rw [List.length_reverse]; exact hz, _, r.reverse, IsTup.new _ _⟩, rfl, q _ (I5.hok.fresh (Nat.le_refl _))⟩
def eRev (m : Bool) (f : Ev) : Ev := fun ρ S => (f ρ S).bind fun v S1 => match view S1 v with
  | some (.list ds) => mkL m ds.reverse S1
  | some (.tuple ds) => .ok (.d (.tuple ds.reverse)) S1
  | _ => .bad
@[simp] theorem ap_eRev {m : Bool} {f : Ev} {ρ : Env} {S : Store} : eRev m f ρ S = (f ρ S).bind fun v S1 => match view S1 v with
  | some (.list ds) => mkL m ds.reverse S1
  | some (.tuple ds) => .ok (.d (.tuple ds.reverse)) S1
  | _ => .bad := rfl
theorem de_rev {X : Cx} {W : WX} {e : Expr} {f : Ev} {k : Nat} {p1 p2 p3 pos : Pos} (m : Bool) (h : DE τ X W e f) : DE τ X W (.Subscript e (.Slice none none (some (.UnaryOp .USub (.Constant (.int 1) k p1) p2)) p3) pos) (eRev m f) :=
  ⟨PE.mono (pe_revA h.r) fun σ H Q ⟨φ, F, ρ, S, g, sl, p⟩ => ⟨φ, F, ρ, S, g, sl, PostG.bind g p fun φ1 F1 H1 S1 v x nw1 r1 p1 => by
    split at p1
    · rename_i ds e
      obtain ⟨a, ys, rfl, h1, h2⟩ := ob_of nw1.sg r1 e
      exact ⟨a, ys, rfl, .inl ⟨.inl (.inl h1), Post.newL nw1.sg h2.rev p1⟩⟩
    · rename_i ds e
      obtain ⟨a, ys, rfl, h1, h2⟩ := ob_of nw1.sg r1 e
      exact ⟨a, ys, rfl, .inr ⟨h1.sq, Post.newT nw1.sg h2.rev p1⟩⟩
    · exact p1.elim⟩⟩
def gBad : Fn := fun _ _ => .bad
theorem def_bad {P : Program} {w : World} {K : PySem.W.Frag} {mg : Str → Option Value} {base : Heap} {x y : Str} {st : Stmt} {ps : List Str} {k n : Nat} (Fu : DefF K mg x y st) (hn : ps.length = n)
    (bi : ∀ (kV doc pm : Value) (an : Option Addr) (cdv ct : Value) (us : List Value), us.length = ps.length → bindArgs (PySem.W.fnOf y y (defArgs st) (defBody st) (defScope st) .none kV doc pm an cdv ct) ⟨us, []⟩ = pure (ps.zip us)) : DefOk τ P w K mg base k n x gBad := by
  obtain ⟨f, oc, od, kV, doc, pm, an, cdv, ct, osl, h1, h2, h3, h4⟩ := Fu.ex
  have F := fun_mk (st := st) h2 h3 h4
  subst hn
  refine ⟨f, _, ps, ⟨fun vs H Q E h => h.1, fun B fs s H as us vs Q E _ _ _ _ _ h => ?_⟩, h1, h4, F.binds bi⟩
  obtain ⟨_, φ, F, xs, S, g, r, p⟩ := h
  exact (show False from p).elim
theorem def_rec {P : Program} {w : World} {K : PySem.W.Frag} {mg : Str → Option Value} {base : Heap} {x y : Str} {st : Stmt} {N ps : List Str} {k n : Nat} {b : Fn → Sv} {g : Nat → Fn} (g0 : g 0 = gBad) (gs : ∀ m, g (m + 1) = fnOf N.length (b (g m))) (Fu : DefF K mg x y st) (Sc : FnScope N ps (defScope st)) (hn : ps.length = n)
    (bi : ∀ (kV doc pm : Value) (an : Option Addr) (cdv ct : Value) (us : List Value), us.length = ps.length → bindArgs (PySem.W.fnOf y y (defArgs st) (defBody st) (defScope st) .none kV doc pm an cdv ct) ⟨us, []⟩ = pure (ps.zip us))
    (body : ∀ (m : Nat) (rc : Fn), DefOk τ P w K mg base (k + m) n x rc → ∀ (f : Addr) (cdv : Value) (B : Around) (fs : List PySem.Env) (s : Shared) (H : Hp) (E : XK), Cc (cxD P w K mg base N y st f cdv B fs s H E) (wD E) (k + m) → DB τ (cxD P w K mg base N y st f cdv B fs s H E) (wD E) (defBody st) (b rc)) :
    ∀ m, DefOk τ P w K mg base (k + m) n x (g m)
  | 0 => by rw [g0]; exact def_bad Fu hn bi
  | m + 1 => by
    rw [gs]
    exact def_ok Fu Sc hn bi (body m (g m) (def_rec g0 gs Fu Sc hn bi body m))
def eDic0 (m : Bool) : Ev := fun _ S => mkK m [] S
@[simp] theorem ap_eDic0 {m : Bool} {ρ : Env} {S : Store} : eDic0 m ρ S = mkK m [] S := rfl
theorem de_dic0 {X : Cx} {W : WX} {pos : Pos} (m : Bool) : DE τ X W (.Dict [] [] pos) (eDic0 m) := ⟨PE.mono pe_dnewK fun σ H Q ⟨φ, F, ρ, S, g, sl, p⟩ => Post.newK g .nil p⟩
def rSortL (K : PySem.W.Frag) : List V → Hp → VK → Prop := fun vs H Q => ∃ a xs ds, vs = [.ref a] ∧ SqL K H a xs ∧ DpAll K H xs ds ∧ PyData.plainAll ds = true ∧ PyData.depthAll ds ≤ 60 ∧ sortB ds = true ∧ ds.length ≤ sizeLine ∧
  ∀ ps : List (V × D), ps.Perm (xs.zip ds) → ps.map (·.2) = sortD ds → ∀ l, H l = none → Q (.ref l) (upd H l (.lst (ps.map (·.1))))
theorem each_rel : ∀ {xs : List V} {its : List Value} {ds : List D}, Vals xs its → xs.length = ds.length → PySem.W.EachIs (fun v (b : V × D) => RelV b.1 v) its (xs.zip ds)
  | _, _, [], .nil, _ => .nil
  | _, _, [], .cons _ _, h => by simp at h
  | _, _, d :: ds, .nil, h => by simp at h
  | _, _, d :: ds, .cons r t, h => .cons r (each_rel t (by simpa using h))
theorem each_reads {hp : Heap} : ∀ {xs : List V} {its : List Value} {ds : List D} {as : List Addr}, ReadsAll hp its ds as → xs.length = ds.length → PySem.W.EachIs (fun v (b : V × D) => ∃ as, Reads hp v b.2 as) its (xs.zip ds)
  | [], _, [], _, .nil, _ => .nil
  | x :: xs, _, d :: ds, _, .cons r t, h => .cons ⟨_, r⟩ (each_reads t (by simpa using h))
theorem readsAll_len {hp : Heap} : ∀ {its : List Value} {ds : List D} {as : List Addr}, ReadsAll hp its ds as → its.length = ds.length
  | _, _, _, .nil => rfl
  | _, _, _, .cons _ t => by rw [List.length_cons, List.length_cons, readsAll_len t]
theorem vals_each : ∀ {out : List Value} {bs : List (V × D)}, PySem.W.EachIs (fun v (b : V × D) => RelV b.1 v) out bs → Vals (bs.map (·.1)) out
  | _, _, .nil => .nil
  | _, _, .cons h t => .cons h (vals_each t)
theorem call_sortL {X : Cx} (hu : X.A.units + 64 < cLine) : CallR X (.builtin "sorted") (rSortL X.K) := by
  intro pins s σ H xs us Q I r h
  obtain ⟨a, ys, ds, rfl, hq, hd, hp, hdp, hs, hl, q⟩ := h
  obtain ⟨u, rfl, ru⟩ := vals1 r
  obtain rfl : u = Value.ref a := ru
  obtain ⟨its, rv, p, hz⟩ := I.list hq
  obtain ⟨as, rd⟩ := Dp.readsAll I ds _ its hd rv
  have hlen : ys.length = ds.length := by rw [rv.length, readsAll_len rd]
  have e1 := each_rel (ds := ds) rv hlen
  have e2 := each_reads rd hlen
  have em : (ys.zip ds).map (fun b : V × D => b.2) = ds := by
    rw [show (fun b : V × D => b.2) = Prod.snd from rfl, List.map_snd_zip (by omega)]
  obtain ⟨hal, hk⟩ := sortB_p hs
  have hzl : (ys.zip ds).length = ds.length := by rw [List.length_zip]; omega
  refine PySem.W.sorted_data (bs := ys.zip ds) (enc := fun b => b.2) (R := fun v (b : V × D) => RelV b.1 v) p.isList e1 e2 (by rw [em]; exact hal) (by rw [em]; exact hk) (by rw [hzl]; exact hl) (fun b hb => ?_) fun out ho eo => ?_
  · have hb2 : b.2 ∈ ds := (List.of_mem_zip hb).2
    have := PyData.depth_le_depthAll ds b.2 hb2
    omega
  · obtain ⟨ep, he'⟩ := PyProof.Rows.sortedAll_at s.heap its out.toArray
    have ve := vals_each eo
    have perm : ((ys.zip ds).mergeSort (PySem.W.dataLe false fun b => b.2)).Perm (ys.zip ds) := List.mergeSort_perm _ _
    have le : (((ys.zip ds).mergeSort (PySem.W.dataLe false fun b => b.2)).map (·.1)).length ≤ sizeLine := by rw [List.length_map, perm.length_eq, hzl]; exact hl
    have sm : ((ys.zip ds).mergeSort (PySem.W.dataLe false fun b => b.2)).map (·.2) = sortD ds := by
      unfold sortD
      have q := List.map_mergeSort (r := PySem.W.dataLe false fun b : V × D => b.2) (s := PySem.W.dataLe false fun d : D => d) (f := fun b : V × D => b.2) (l := ys.zip ds) (fun _ _ _ _ => rfl)
      rw [q, em]
    exact ⟨.ref _, _, I.laid (t' := s.toks) (o := .lst _) (fun _ _ => PyProof.Rows.sortedAll_old) (Nat.le_succ _) ⟨le, out, ep, ve, he'⟩, rfl, q _ perm sm _ (I.hok.fresh (Nat.le_succ _))⟩
def fSortL (m : Bool) : Fn := fun vs S => match vs with
  | [v] => match view S v with
    | some (.list ds) => if (seqOk ds && sortB ds && decide (ds.length ≤ sizeLine)) = true then mkL m (sortD ds) S else .bad
    | _ => .bad
  | _ => .bad
theorem fz_of {K : PySem.W.Frag} {F : Addr → Prop} {H : Hp} {xs : List V} {ds : List D} (f : FzAll K F H xs ds) {ps : List (V × D)} (hp : ps.Perm (xs.zip ds)) (he : ps.map (·.2) = sortD ds) : FzAll K F H (ps.map (·.1)) (sortD ds) := by
  have all : ∀ q ∈ ps, Fz K F H q.1 q.2 := fun q hq => by
    obtain ⟨i, hi⟩ := List.mem_iff_getElem?.mp (hp.mem_iff.mp hq)
    rw [List.getElem?_zip_eq_some] at hi
    obtain ⟨v, h3, h4⟩ := f.get hi.2
    rw [hi.1] at h3
    cases h3
    exact h4
  have go : ∀ qs : List (V × D), (∀ q ∈ qs, Fz K F H q.1 q.2) → FzAll K F H (qs.map (·.1)) (qs.map (·.2)) := fun qs => by
    induction qs with
    | nil => intro _; exact .nil
    | cons q qs ih => intro h; exact .cons (h q List.mem_cons_self) (ih fun r hr => h r (List.mem_cons_of_mem _ hr))
  rw [← he]
  exact go ps all
theorem ok_sortL {K : PySem.W.Frag} {mg : Str → Option Value} {m : Bool} : CallOk τ K mg (rSortL K) (fSortL m) := by
  intro φ F H S xs vs Q W g r p
  unfold fSortL at p
  split at p
  · rename_i v
    obtain ⟨x, rfl, r1⟩ := reps1 r
    split at p
    · rename_i ds e
      obtain ⟨a, ys, rfl, h1, h2⟩ := ob_of g r1 e
      by_cases hl : (seqOk ds && sortB ds && decide (ds.length ≤ sizeLine)) = true
      · rw [if_pos hl] at p
        have h3 : (seqOk ds = true ∧ sortB ds = true) ∧ ds.length ≤ sizeLine := by simpa using hl
        obtain ⟨h4, h5⟩ := seqOk_p h3.1.1
        exact ⟨a, ys, ds, rfl, .inl (.inl h1), FzAll.dp _ _ h2 h4, h4, h5, h3.1.2, h3.2, fun ps hp he l hl => Post.newL g (fz_of h2 hp he) p l hl⟩
      · rw [if_neg hl] at p; exact p.elim
    · exact p.elim
  · exact p.elim
def eChain3 (o o' o'' : Vl → Vl → Store → Res Vl) (fa fb fc fd : Ev) : Ev := fun ρ S => (fa ρ S).bind fun a S1 => (fb ρ S1).bind fun b S2 => (o a b S2).bind fun z S3 => match z with
  | .d (.bool k) => if k = true then (fc ρ S3).bind fun c S4 => (o' b c S4).bind fun z' S5 => match z' with
      | .d (.bool k') => if k' = true then (fd ρ S5).bind fun d S6 => o'' c d S6 else .ok (.d (.bool false)) S5
      | _ => .bad
    else .ok (.d (.bool false)) S3
  | _ => .bad
def tChain3 (r r' r'' : R2) (ta tb tc td : TE) : TE := fun σ H Q => ta σ H fun x H1 => tb σ H1 fun y H2 => r x y H2 fun z H3 => ∃ k, z = .bl k ∧
  if k = true then tc σ H3 fun u H4 => r' y u H4 fun z' H5 => ∃ k', z' = .bl k' ∧ if k' = true then td σ H5 fun v H6 => r'' u v H6 Q else Q (.bl false) H5 else Q (.bl false) H3
section
variable {X : Cx} {a b c d : Expr} {ta tb tc td : TE} {pos : Pos} {op op' op'' : CmpOp} {r r' r'' : R2}
theorem pe_chain3 (ho : OpR X (compareOp op) r) (ho' : OpR X (compareOp op') r') (ho'' : OpR X (compareOp op'') r'') (ha : PE X a ta) (hb : PE X b tb) (hc : PE X c tc) (hd : PE X d td) (hm : lastMarks [op, op', op''] [b, c, d] = false) :
    PE X (.Compare a [op, op', op''] [b, c, d] pos) (tChain3 r r' r'' ta tb tc td) := by
  refine ⟨fun pins s σ H Q I h => ?_⟩
  refine Compare_chain (thn (ha.run pins s σ H _ I h) fun v s1 ⟨x, H1, I1, r1, q1⟩ => chain_link (thn (hb.run pins s1 σ H1 _ I1 q1) fun u s2 ⟨y, H2, I2, r2, q2⟩ =>
    thn (ho pins s2 σ H2 x y v u _ I2 r1 r2 q2) fun _ s3 ⟨z, H3, I3, r3, k, e, q3⟩ => ?_)) hm
  subst e
  cases r3
  refine wpAny_truthy_bool ?_
  cases k with
  | false => exact ite_ff ⟨.bl false, H3, I3, rfl, q3⟩
  | true =>
    refine ite_tt (chain_link (thn (hc.run pins s3 σ H3 _ I3 q3) fun w' s4 ⟨z', H4, I4, r4, q4⟩ => thn (ho' pins s4 σ H4 y z' u w' _ I4 r2 r4 q4) fun _ s5 ⟨z2, H5, I5, r5, k2, e2, q5⟩ => ?_))
    subst e2
    cases r5
    refine wpAny_truthy_bool ?_
    cases k2 with
    | false => exact ite_ff ⟨.bl false, H5, I5, rfl, q5⟩
    | true => exact ite_tt (chain_last (thn (hd.run pins s5 σ H5 _ I5 q5) fun w2 s6 ⟨z3, H6, I6, r6, q6⟩ => ho'' pins s6 σ H6 z' z3 w' w2 Q I6 r4 r6 q6))
theorem pt_chain3 (ho : OpR X (compareOp op) r) (ho' : OpR X (compareOp op') r') (ho'' : OpR X (compareOp op'') r'') (ha : PE X a ta) (hb : PE X b tb) (hc : PE X c tc) (hd : PE X d td) (hm : lastMarks [op, op', op''] [b, c, d] = false) :
    PT X (.Compare a [op, op', op''] [b, c, d] pos) (tTest (tChain3 r r' r'' ta tb tc td)) := by
  refine ⟨fun pins s σ H Q I h => ?_⟩
  refine isTrue_chain (thn (ha.run pins s σ H _ I h) fun v s1 ⟨x, H1, I1, r1, q1⟩ => test_link (thn (hb.run pins s1 σ H1 _ I1 q1) fun u s2 ⟨y, H2, I2, r2, q2⟩ =>
    thn (ho pins s2 σ H2 x y v u _ I2 r1 r2 q2) fun _ s3 ⟨z, H3, I3, r3, k, e, q3⟩ => ?_)) hm
  subst e
  cases r3
  refine wpAny_truthy_bool ?_
  cases k with
  | false =>
    obtain ⟨k', e', q'⟩ := q3
    cases e'
    exact ite_ff ⟨H3, I3, q'⟩
  | true =>
    refine ite_tt (test_link (thn (hc.run pins s3 σ H3 _ I3 q3) fun w' s4 ⟨z', H4, I4, r4, q4⟩ => thn (ho' pins s4 σ H4 y z' u w' _ I4 r2 r4 q4) fun _ s5 ⟨z2, H5, I5, r5, k2, e2, q5⟩ => ?_))
    subst e2
    cases r5
    refine wpAny_truthy_bool ?_
    cases k2 with
    | false =>
      obtain ⟨k', e', q'⟩ := q5
      cases e'
      exact ite_ff ⟨H5, I5, q'⟩
    | true =>
      refine ite_tt (test_last (thn (hd.run pins s5 σ H5 _ I5 q5) fun w2 s6 ⟨z3, H6, I6, r6, q6⟩ => thn (ho'' pins s6 σ H6 z' z3 w' w2 _ I6 r4 r6 q6) fun _ s7 ⟨z4, H7, I7, r7, k3, e3, q7⟩ => ?_))
      subst e3
      cases r7
      exact wpAny_truthy_bool ⟨H7, I7, q7⟩
end
section
variable {X : Cx} {W : WX} {a b c d : Expr} {fa fb fc fd : Ev} {pos : Pos} {op op' op'' : CmpOp} {r r' r'' : R2} {o o' o'' : Vl → Vl → Store → Res Vl}
theorem rechain3 (ok : OpOk τ X.K X.mg r o) (ok' : OpOk τ X.K X.mg r' o') (ok'' : OpOk τ X.K X.mg r'' o'') {σ : L2.St} {H : Hp} {Q : VK} (h : RE τ X.K X.mg W (eChain3 o o' o'' fa fb fc fd) σ H Q) : tChain3 r r' r'' (RE τ X.K X.mg W fa) (RE τ X.K X.mg W fb) (RE τ X.K X.mg W fc) (RE τ X.K X.mg W fd) σ H Q := by
  obtain ⟨φ, F, ρ, S, g, sl, p⟩ := h
  refine ⟨φ, F, ρ, S, g, sl, PostG.bind g p fun φ1 F1 H1 S1 v x nw1 r1 p1 => ⟨φ1, F1, ρ, S1, nw1.sg, sl.now nw1, PostG.bind nw1.sg p1 fun φ2 F2 H2 S2 u y nw2 r2 p2 => ?_⟩⟩
  refine ok nw2.sg (r1.now nw2) r2 (PostG.bind (R' := RepV X.K X.mg) nw2.sg p2 fun φ3 F3 H3 S3 z zv nw3 r3 p3 => ?_)
  have sl3 := ((sl.now nw1).now nw2).now nw3
  cases z with
  | d zd =>
    cases zd with
    | bool kb =>
      cases r3
      refine ⟨kb, rfl, ?_⟩
      cases kb with
      | true =>
        simp only [if_true] at p3 ⊢
        refine ⟨φ3, F3, ρ, S3, nw3.sg, sl3, PostG.bind nw3.sg p3 fun φ4 F4 H4 S4 w q nw4 r4 p4 => ?_⟩
        refine ok' nw4.sg ((r2.now nw3).now nw4) r4 (PostG.bind (R' := RepV X.K X.mg) nw4.sg p4 fun φ5 F5 H5 S5 z2 zv2 nw5 r5 p5 => ?_)
        cases z2 with
        | d zd2 =>
          cases zd2 with
          | bool kb2 =>
            cases r5
            refine ⟨kb2, rfl, ?_⟩
            cases kb2 with
            | true =>
              simp only [if_true] at p5 ⊢
              exact ⟨φ5, F5, ρ, S5, nw5.sg, (sl3.now nw4).now nw5, PostG.bind nw5.sg p5 fun φ6 F6 H6 S6 w2 q2 nw6 r6 p6 => ok'' nw6.sg ((r4.now nw5).now nw6) r6 p6⟩
            | false => exact Post.ok nw5.sg p5 (.bl false)
          | _ => exact p5.elim
        | _ => exact p5.elim
      | false => exact Post.ok nw3.sg p3 (.bl false)
    | _ => exact p3.elim
  | _ => exact p3.elim
theorem de_chain3 (ho : OpR X (compareOp op) r) (ok : OpOk τ X.K X.mg r o) (ho' : OpR X (compareOp op') r') (ok' : OpOk τ X.K X.mg r' o') (ho'' : OpR X (compareOp op'') r'') (ok'' : OpOk τ X.K X.mg r'' o'') (ha : DE τ X W a fa) (hb : DE τ X W b fb) (hc : DE τ X W c fc) (hd : DE τ X W d fd)
    (hm : lastMarks [op, op', op''] [b, c, d] = false := by rfl) : DE τ X W (.Compare a [op, op', op''] [b, c, d] pos) (eChain3 o o' o'' fa fb fc fd) := ⟨PE.mono (pe_chain3 ho ho' ho'' ha.r hb.r hc.r hd.r hm) fun _ _ _ h => rechain3 ok ok' ok'' h⟩
theorem dt_chain3 (ho : OpR X (compareOp op) r) (ok : OpOk τ X.K X.mg r o) (ho' : OpR X (compareOp op') r') (ok' : OpOk τ X.K X.mg r' o') (ho'' : OpR X (compareOp op'') r'') (ok'' : OpOk τ X.K X.mg r'' o'') (ha : DE τ X W a fa) (hb : DE τ X W b fb) (hc : DE τ X W c fc) (hd : DE τ X W d fd)
    (hm : lastMarks [op, op', op''] [b, c, d] = false := by rfl) : DT τ X W (.Compare a [op, op', op''] [b, c, d] pos) (tOf (eChain3 o o' o'' fa fb fc fd)) := ⟨PT.mono (pt_chain3 ho ho' ho'' ha.r hb.r hc.r hd.r hm) fun _ _ _ h => tof h fun _ h => rechain3 ok ok' ok'' h⟩
@[simp] theorem ap_eChain3 {ρ : Env} {S : Store} : eChain3 o o' o'' fa fb fc fd ρ S = (fa ρ S).bind fun a S1 => (fb ρ S1).bind fun b S2 => (o a b S2).bind fun z S3 => match z with
  | .d (.bool k) => if k = true then (fc ρ S3).bind fun c S4 => (o' b c S4).bind fun z' S5 => match z' with
      | .d (.bool k') => if k' = true then (fd ρ S5).bind fun d S6 => o'' c d S6 else .ok (.d (.bool false)) S5
      | _ => .bad
    else .ok (.d (.bool false)) S3
  | _ => .bad := rfl
end
def tysOf : List Vl → Option (List Ty)
  | [] => some []
  | .ty T :: vs => (tysOf vs).map fun Ts => T :: Ts
  | _ => none
def eTys (f : Av) : Ev := fun ρ S => (f ρ S).bind fun vs S1 => match tysOf vs with
  | some Ts => if Ts.length ≤ 1000 then .ok (.tys Ts) S1 else .bad
  | none => .bad
@[simp] theorem ap_eTys {f : Av} {ρ : Env} {S : Store} : eTys f ρ S = (f ρ S).bind fun vs S1 => match tysOf vs with
  | some Ts => if Ts.length ≤ 1000 then .ok (.tys Ts) S1 else .bad
  | none => .bad := rfl
theorem tys_of {K : PySem.W.Frag} {mg : Str → Option Value} {φ : Nat → Addr} {F : Addr → Prop} {H : Hp} {n : Nat} : ∀ {xs : List V} {vs : List Vl} {Ts : List Ty}, RepVs K mg φ F H n xs vs → tysOf vs = some Ts → xs = Ts.map fun T => V.ty T.name
  | [], [], Ts, _, h => by cases h; rfl
  | x :: xs, v :: vs, Ts, r, h => by
    cases v with
    | ty T =>
      simp only [tysOf, Option.map_eq_some_iff] at h
      obtain ⟨Us, h1, rfl⟩ := h
      rw [tys_of r.2 h1, show x = V.ty T.name from r.1]
      rfl
    | _ => simp [tysOf] at h
  | [], _ :: _, _, r, _ => r.elim
  | _ :: _, [], _, r, _ => r.elim
theorem de_tys {X : Cx} {W : WX} {es : List Expr} {fs : Av} {kk : Nat} {pos : Pos} (h : DA τ X W es fs) : DE τ X W (.Tuple es kk pos) (eTys fs) := ⟨PE.mono (pe_tup h.r) fun σ H Q ⟨φ, F, ρ, S, g, sl, p⟩ => ⟨φ, F, ρ, S, g, sl, PostG.bind g p fun φ1 F1 H1 S1 vs xs nw1 r1 p1 => by
  split at p1
  · rename_i Ts q
    by_cases hl : Ts.length ≤ 1000
    · rw [if_pos hl] at p1
      have ex := tys_of r1 q
      subst ex
      refine ⟨by rw [List.length_map]; exact line1000 hl, fun t ht => ?_⟩
      have nw2 := nw1.sg.fresh (o := .tup (Ts.map fun T => V.ty T.name)) ht
      exact PostG.start nw1.sg nw2 p1 _ _ _ (.refl nw2.sg) _ ⟨t, rfl, .inr rfl, upd_same⟩
    · rw [if_neg hl] at p1; exact p1.elim
  · exact p1.elim⟩⟩
def dropI (i : Nat) : SRes → SRes
  | .nx ρ S => .nx (ρ.set i none) S
  | .bk ρ S => .bk (ρ.set i none) S
  | .ct ρ S => .ct (ρ.set i none) S
  | .ret v S => .ret v S
  | _ => .bad
open Classical in
noncomputable def pickA (f : Addr → SRes) : SRes := if h : ∃ r, ∀ a, f a = r then Classical.choose h else .bad
theorem pickA_of {f : Addr → SRes} {r : SRes} (h : ∀ a, f a = r) : pickA f = r := by
  have ex : ∃ r, ∀ a, f a = r := ⟨r, h⟩
  unfold pickA
  rw [dif_pos ex]
  exact (Classical.choose_spec ex 0).symm.trans (h 0)
theorem pickA_at {f : Addr → SRes} (h : pickA f ≠ .bad) (a : Addr) : f a = pickA f := by
  by_cases ex : ∃ r, ∀ a, f a = r
  · unfold pickA
    rw [dif_pos ex]
    exact Classical.choose_spec ex a
  · exact absurd (by unfold pickA; rw [dif_neg ex]) h
noncomputable def sTryAs (i : Nat) (body : Sv) (sub : Str → Option Bool) (suite : Addr → Xn → Sv) : Sv := fun ρ S => match body ρ S with
  | .ex x ρ1 S1 => match sub x.cls with
    | some true => if x.fs.isEmpty = true then pickA fun a => dropI i (suite a x (ρ1.set i (some (.xa a))) S1) else .bad
    | some false => .ex x ρ1 S1
    | none => .bad
  | r => r
section
variable {X : Cx} {W : WX} {k i : Nat} {x n : Str} {c : Value} {body suite : List Stmt} {b₀ : Stmt} {np pos pos' : Pos} {fb : Sv} {sub : Str → Option Bool} {fs : Addr → Xn → Sv}
theorem Cc.tr {W' : WX} {pn : List (Addr × Obj)} {xe : Value → Shared → Prop} (cc : Cc X W k) (tk : Takes (X.tr pn xe) W') (po : PassesOwn (model X.prog X.w) X.A X.env xe) : Cc (X.tr pn xe) W' k := ⟨cc.calm, cc.nd, tk, cc.rm, po, cc.gd⟩
theorem drop_ends {τ : Tb} {K : PySem.W.Frag} {mg : Str → Option Value} {m : Nat} {φ : Nat → Addr} {F : Addr → Prop} {H : Hp} {D : Ends} {r : SRes} {W' : WX} (p : PostS τ K mg W' m φ F H D (dropI i r)) :
    PostS τ K mg W0 m φ F H { nx := fun σ' H' => D.nx (σ'.set i none) H', rt := D.rt, bk := fun σ' H' => D.bk (σ'.set i none) H', ct := fun σ' H' => D.ct (σ'.set i none) H' } r := by
  have un : ∀ {φ' : Nat → Addr} {F' : Addr → Prop} {H' : Hp} {n : Nat} {σ' : L2.St} {ρ : Env}, Slots K mg φ' F' H' n σ' ρ → Slots K mg φ' F' H' n (σ'.set i none) (ρ.set i none) := fun {φ' F' H' n σ' ρ} h => by
    have := h.wiped [i]
    simpa [L2.wipe, wipeE] using this
  cases r with
  | nx ρ S' => exact fun φ' F' H' nw σ' sl => p φ' F' H' nw _ (un sl)
  | bk ρ S' => exact fun φ' F' H' nw σ' sl => p φ' F' H' nw _ (un sl)
  | ct ρ S' => exact fun φ' F' H' nw σ' sl => p φ' F' H' nw _ (un sl)
  | ret v S' => exact fun φ' F' H' nw x rx => p φ' F' H' nw x rx
  | ex e ρ S' => exact (show False from p).elim
  | bad => exact (show False from p).elim
theorem ds_tryAs (cc : Cc X W k) (hi : X.N[i]? = some n) (hln : X.env.kindOf n = some .local) (hc : Names X x c) (hsub : ∀ (y : Str) (cls : Value) (b : Bool), X.mg y = some cls → sub y = some b → PySem.W.exmOne X.K cls c = some b)
    (hb : ∀ (W' : WX) (pn : List (Addr × Obj)) (xe : Value → Shared → Prop), Takes (X.tr pn xe) W' → PassesOwn (model X.prog X.w) X.A X.env xe → DB τ (X.tr pn xe) W' body fb)
    (hsu : ∀ (a : Addr) (oe : Obj) (y : Xn) (cls : Value) (pn : List (Addr × Obj)), X.mg y.cls = some cls → sub y.cls = some true → y.fs = [] → Zc cls none oe → (∃ vs, oe.data = .fields vs) → PSs (X.suite a ((a, oe) :: pn)) (b₀ :: suite) (RS τ X.K X.mg W0 (fs a y)))
    (hs : X.stack = X.env :: X.outer := by rfl) (hf : X.env.frame = some X.env.locals := by rfl) :
    DS τ X W (.Try body [.ExceptHandler (some (.Name x np)) (some n) (b₀ :: suite) pos'] [] [] pos) (sTryAs i fb sub fs) := by
  refine ⟨PS.mono (ps_try_as (i := i) (c := c) (Wout := W) (tb := fun W' => RS τ X.K X.mg W' fb)
    (ts := fun a cls d E σ H => d = none ∧ ∃ y : Xn, X.mg y.cls = some cls ∧ sub y.cls = some true ∧ y.fs = [] ∧ RS τ X.K X.mg W0 (fs a y) E σ H) hs hf cc.nd hi hln hc cc.tk (fun W' pn xe tk po => (hb W' pn xe tk po).r)
    fun a oe cls d pn hz hv => ⟨fun pins s σ H D I ⟨hd, y, h1, h2, h3, h4⟩ => by subst hd; exact (hsu a oe y cls pn h1 h2 h3 hz hv).run pins s σ H D I h4⟩) fun E σ H ⟨φ, F, ρ, S, g, sl, p⟩ => ?_⟩
  refine ⟨φ, F, ρ, S, g, sl, ?_⟩
  unfold sTryAs at p
  cases e : fb ρ S with
  | nx ρ1 S1 => rw [e] at p; exact p
  | ret v S1 => rw [e] at p; exact p
  | bk ρ1 S1 => rw [e] at p; exact p
  | ct ρ1 S1 => rw [e] at p; exact p
  | bad => rw [e] at p; exact p
  | ex y ρ1 S1 =>
    rw [e] at p
    intro φ1 F1 H1 nw cls od rx σ1 sl1
    cases es : sub y.cls with
    | none => simp only [es] at p; exact (show False from p).elim
    | some b =>
      refine ⟨b, hsub _ _ _ rx.1 es, fun hb a ha => ?_, fun hb => ?_⟩
      · subst hb
        simp only [es] at p
        by_cases hem : y.fs.isEmpty = true
        case neg => rw [if_neg hem] at p; exact (show False from p).elim
        rw [if_pos hem] at p
        have hne : pickA (fun a => dropI i (fs a y (ρ1.set i (some (.xa a))) S1)) ≠ .bad := fun z => by rw [z] at p; exact p
        have ea := pickA_at hne a
        rw [← ea] at p
        have p1 := PostS.start g nw p
        have hfs : y.fs = [] := List.isEmpty_iff.mp hem
        have hod : od = none := by
          have := rx.2
          rw [hfs] at this
          exact this
        exact ⟨hod, y, rx.1, es, hfs, φ1, F1, _, S1, nw.sg, sl1.set (x := .xa a) rfl, drop_ends p1⟩
      · subst hb
        simp only [es] at p
        exact p φ1 F1 H1 nw cls od rx σ1 sl1
end
def eIsE (i : Nat) (a : Addr) (b : Bool) : Ev := fun ρ S => match ρ[i]? with
  | some (some (.xa a')) => if a' = a then .ok (.d (.bool b)) S else .bad
  | _ => .bad
@[simp] theorem ap_eIsE {i : Nat} {a : Addr} {b : Bool} {ρ : Env} {S : Store} : eIsE i a b ρ S = match ρ[i]? with
  | some (some (.xa a')) => if a' = a then .ok (.d (.bool b)) S else .bad
  | _ => .bad := rfl
theorem de_isE {X : Cx} {a D : Addr} {oe : Obj} {pn : List (Addr × Obj)} {n : Str} {i : Nat} {e2 : Expr} {c : V} {cv : Value} {b : Bool} {p p1 pos : Pos} (C : ExcC X.K D) (hz : Zc (.ref D) none oe) (hf : ∃ vs, oe.data = .fields vs) (hN : X.N[i]? = some n) (hvis : Vis X.env.scope n)
    (he2 : PE (X.suite a ((a, oe) :: pn)) e2 (tC c)) (hcv : ∀ u, RelV c u → u = cv) (hk : PySem.W.kitOne X.K (.ref D) cv = some b) (hg : Gl X "isinstance") (hm : X.mg "isinstance" = none)
    (hd : (n == ("__debug__" : Str)) = false := by decide) (hcd : (n == ("__classdict__" : Str)) = false := by decide)
    (h1 : starEach [.Name n p1, e2] X.env = (false, eval (.Name n p1) X.env) :: starEach [e2] X.env := by rfl) (h2 : starEach [e2] X.env = (false, eval e2 X.env) :: starEach [] X.env := by rfl) (h3 : (backTo pos (starEach [e2] X.env)).any (·.1) = false := by rfl) :
    DE τ (X.suite a ((a, oe) :: pn)) W0 (.Call (.Name "isinstance" p) [.Name n p1, e2] [] pos) (eIsE i a b) :=
  ⟨PE.mono (pe_callB (call_isE C hz hf) hg hm bb_isinstance (pa_cons (pe_var hN hvis hd hcd) (pa_cons he2 pa_nil h2) h1) (by decide) (by decide) h1 h3) fun σ H Q ⟨φ, F, ρ, S, g, sl, q⟩ => by
    unfold eIsE at q
    split at q
    · rename_i a' e
      by_cases ea : a' = a
      · subst ea
        rw [if_pos rfl] at q
        obtain ⟨v, hv1, hv2⟩ := sl.2 i _ e
        obtain rfl : v = .ref a' := hv2
        exact ⟨_, hv1, c, cv, b, rfl, hcv, hk, Post.ok g q (.bl b)⟩
      · rw [if_neg ea] at q; exact q.elim
    · exact q.elim⟩
def rFind (K : PySem.W.Frag) (k : List D → D → VK → Hp → Prop) : V → List V → Hp → VK → Prop := fun x vs H Q => ∃ a xs ds y d, x = .ref a ∧ vs = [y] ∧ SqL K H a xs ∧ DpAll K H xs ds ∧ Dp K H y d ∧ PyData.plainAll ds = true ∧ PyData.depthAll ds ≤ 60 ∧ d.plain = true ∧ k ds d Q H
def kCount (ds : List D) (d : D) (Q : VK) (H : Hp) : Prop := Q (.int ((ds.countP fun z => PyData.eqv z d : Nat) : Int)) H
def kIndex (ds : List D) (d : D) (Q : VK) (H : Hp) : Prop := ∃ j, SeqAt.dataPlace ds d = some j ∧ Q (.int (j : Nat)) H
theorem mt_countX {X : Cx} (hu : X.A.units + 64 < cLine) : MtR X "list.count" (rFind X.K kCount) := by
  intro pins s σ H x vs v us Q I rx rv h
  obtain ⟨a, xs, ds, y, d, rfl, rfl, hq, hd, hy, h1, h2, h3, q⟩ := h
  cases rx
  obtain ⟨u, rfl, ru⟩ := vals1 rv
  obtain ⟨its, r, p, hz⟩ := I.list hq
  obtain ⟨as, rd⟩ := Dp.readsAll I ds _ its hd r
  obtain ⟨bs, ry⟩ := Dp.reads I d y u hy ru
  exact SeqAt.count_list_data p.isList (by simpa using rd) ry h1 h3 (by omega) ⟨.int _, H, I.kept (t' := s.toks + 1) fun _ _ z => z, ⟨_, rfl⟩, q⟩
theorem mt_indexX {X : Cx} (hu : X.A.units + 64 < cLine) : MtR X "list.index" (rFind X.K kIndex) := by
  intro pins s σ H x vs v us Q I rx rv h
  obtain ⟨a, xs, ds, y, d, rfl, rfl, hq, hd, hy, h1, h2, h3, j, hj, q⟩ := h
  cases rx
  obtain ⟨u, rfl, ru⟩ := vals1 rv
  obtain ⟨its, r, p, hz⟩ := I.list hq
  obtain ⟨as, rd⟩ := Dp.readsAll I ds _ its hd r
  obtain ⟨bs, ry⟩ := Dp.reads I d y u hy ru
  have rd2 : ReadsAll s.heap its.toArray.toList ds as := by simpa using rd
  obtain ⟨hj1, hit, hno⟩ := SeqAt.hit_at rd2 h1 hj
  obtain ⟨⟨cls, dd, data, sl⟩, ho, hc, n, hd'⟩ := p.isList
  simp only at hc hd'
  subst hc hd'
  have small : (j : Int) < 2 ^ 63 - 1 := by
    have e1 : its.toArray.size = xs.length := by rw [List.size_toArray]; exact r.length.symm
    have e2 : sizeLine = 16777216 := by decide
    omega
  exact call_meets F.slot_list_index ⟨_, ho, rfl⟩ F.entry_list_index (F.args_list_index_2 _ _) (SeqAt.list_indexAt a its.toArray n dd sl u _ j hj1 small hit hno)
    ⟨ho, SeqAt.items_plain rd2 ry h1 h3 (by omega), ⟨.int _, H, I.kept (t' := s.toks + 1) fun _ _ z => z, ⟨_, rfl⟩, q⟩⟩
def lstOf (S : Store) (v : Vl) : Option (List D) := match view S v with
  | some (.list ds) => some ds
  | _ => none
def findOk (ds : List D) (d : D) : Bool := seqOk ds && d.plain
def vCount (v u : Vl) (S : Store) : Res Vl := match lstOf S v, view S u with
  | some ds, some d => if findOk ds d = true then .ok (.d (.int ((ds.countP fun z => PyData.eqv z d : Nat) : Int))) S else .bad
  | _, _ => .bad
def vIndex (v u : Vl) (S : Store) : Res Vl := match lstOf S v, view S u with
  | some ds, some d => if findOk ds d = true then match SeqAt.dataPlace ds d with
      | some j => .ok (.d (.int (j : Nat))) S
      | none => .bad
    else .bad
  | _, _ => .bad
def eMet (o : Vl → Vl → Store → Res Vl) (fo fe : Ev) : Ev := fun ρ S => (fo ρ S).bind fun v S1 => if (lstOf S1 v).isSome = true then (fe ρ S1).bind fun u S2 => o v u S2 else .bad
@[simp] theorem ap_eMet {o : Vl → Vl → Store → Res Vl} {fo fe : Ev} {ρ : Env} {S : Store} : eMet o fo fe ρ S = (fo ρ S).bind fun v S1 => if (lstOf S1 v).isSome = true then (fe ρ S1).bind fun u S2 => o v u S2 else .bad := rfl
def MetOk (τ : Tb) (K : PySem.W.Frag) (mg : Str → Option Value) (r : V → List V → Hp → VK → Prop) (o : Vl → Vl → Store → Res Vl) : Prop :=
  ∀ {φ : Nat → Addr} {F : Addr → Prop} {H : Hp} {S : Store} {x y : V} {v u : Vl} {Q : VK} {W : XW}, SG τ K φ F H S → RepV K mg φ F H S.length x v → RepV K mg φ F H S.length y u → Post τ K mg W S.length φ F H Q (o v u S) → r x [y] H Q
theorem find_ok {K : PySem.W.Frag} {mg : Str → Option Value} {k : List D → D → VK → Hp → Prop} {o : Vl → Vl → Store → Res Vl} {g : List D → D → Store → Res Vl} (ho : ∀ v u S, o v u S = match lstOf S v, view S u with
      | some ds, some d => if findOk ds d = true then g ds d S else .bad
      | _, _ => .bad)
    (hk : ∀ {φ : Nat → Addr} {F : Addr → Prop} {H : Hp} {S : Store} {ds : List D} {d : D} {Q : VK} {W : XW}, SG τ K φ F H S → Post τ K mg W S.length φ F H Q (g ds d S) → k ds d Q H) : MetOk τ K mg (rFind K k) o := by
  intro φ F H S x y v u Q W sg r1 r2 p
  rw [ho] at p
  split at p
  · rename_i ds d e1 e2
    by_cases hf : findOk ds d = true
    · rw [if_pos hf] at p
      have hf2 : seqOk ds = true ∧ d.plain = true := by simpa [findOk] using hf
      obtain ⟨h1, h2⟩ := seqOk_p hf2.1
      unfold lstOf at e1
      split at e1
      · rename_i ds' ev
        cases e1
        obtain ⟨a, xs, rfl, h3, h4⟩ := ob_of sg r1 ev
        exact ⟨a, xs, ds, y, d, rfl, rfl, .inl (.inl h3), FzAll.dp _ _ h4 h1, (ob_of sg r2 e2).dp hf2.2, h1, h2, hf2.2, hk sg p⟩
      · cases e1
    · rw [if_neg hf] at p; exact p.elim
  · exact p.elim
theorem ok_count {K : PySem.W.Frag} {mg : Str → Option Value} : MetOk τ K mg (rFind K kCount) vCount := find_ok (g := fun ds d S => .ok (.d (.int ((ds.countP fun z => PyData.eqv z d : Nat) : Int))) S) (fun _ _ _ => rfl) fun {φ F H S ds d Q W} g p => show Q (.int _) H from Post.ok g p (.int _)
theorem ok_index {K : PySem.W.Frag} {mg : Str → Option Value} : MetOk τ K mg (rFind K kIndex) vIndex := find_ok (g := fun ds d S => match SeqAt.dataPlace ds d with
      | some j => .ok (.d (.int (j : Nat))) S
      | none => .bad) (fun _ _ _ => rfl) fun {φ F H S ds d Q W} g p => by
  cases e : SeqAt.dataPlace ds d with
  | none => rw [e] at p; exact p.elim
  | some j => rw [e] at p; exact ⟨j, e, Post.ok g p (.int _)⟩
theorem de_met {X : Cx} {W : WX} {o e : Expr} {fo fe : Ev} {apos cpos : Pos} {name : Str} {id : String} {r : V → List V → Hp → VK → Prop} {ov : Vl → Vl → Store → Res Vl} (slot : Slot "list" name id) (hty : typeOf (.builtin id) = pure (.type "method_descriptor")) (hm : MtR X id r) (ok : MetOk τ X.K X.mg r ov) (ho : DE τ X W o fo) (ha : DA τ X W [e] (aCons fe aNil))
    (hbase : attributeBase o name X.env (eval o X.env) = eval o X.env := by rfl)
    (hfew : ((backTo cpos (starEach [e] X.env)).all (fun x => !x.1) && (backToKw cpos (keywordEach [] X.env)).all (fun x => x.1.isSome) && decide ([e].length + ([] : List Keyword).length + (if ([] : List Keyword).isEmpty then 0 else 1) < 30)) = true := by rfl)
    (hline : (apos.endLine == cpos.line) = true := by rfl) (hs : starEach [e] X.env = (false, eval e X.env) :: starEach [] X.env := by rfl) (hplain : (backTo cpos (starEach [] X.env)).any (·.1) = false := by rfl) :
    DE τ X W (.Call (.Attribute o name apos) [e] [] cpos) (eMet ov fo fe) :=
  ⟨PE.mono (pe_bm PySem.F.plainAttrs_list slot hty hm ho.r ha.r hbase hfew hline hs hplain) fun σ H Q ⟨φ, F, ρ, S, g, sl, p⟩ => ⟨φ, F, ρ, S, g, sl, PostG.bind g p fun φ1 F1 H1 S1 v x nw1 r1 p1 => by
    by_cases hl : (lstOf S1 v).isSome = true
    · rw [if_pos hl] at p1
      have ty : tyV X.K "list" x H1 := by
        unfold lstOf at hl
        split at hl
        · rename_i ds ev
          obtain ⟨a, xs, rfl, h3, h4⟩ := ob_of nw1.sg r1 ev
          exact .inl ⟨rfl, xs, .inl (.inl h3)⟩
        · cases hl
      exact ⟨ty, da_one ⟨φ1, F1, ρ, S1, nw1.sg, sl.now nw1, PostG.bind nw1.sg p1 fun φ2 F2 H2 S2 u y nw2 r2 p2 => ok nw2.sg (r1.now nw2) r2 p2⟩⟩
    · rw [if_neg hl] at p1; exact p1.elim⟩⟩
def fReprX : Fn := fun vs S => match vs with
  | [v] => match view S v with
    | some (.dict []) => .ok (.d (.str (PyData.shown (.dict [])))) S
    | _ => fRepr [v] S
  | _ => .bad
def rDic0 : List V → Hp → VK → Prop := fun vs H Q => ∃ a, vs = [.ref a] ∧ H a = some (.dK []) ∧ Q (.str (PyData.shown (.dict []))) H
theorem call_dic0 {X : Cx} (hg : X.A.guards = some []) (hu : X.A.units + 64 < cLine) : CallR X (.builtin "repr") rDic0 := by
  intro pins s σ H xs us Q I r h
  obtain ⟨a, rfl, ha, q⟩ := h
  obtain ⟨u, rfl, ru⟩ := vals1 r
  obtain rfl : u = Value.ref a := ru
  obtain ⟨hz, hS, vs, rel, o, es, ep, e1, ex, e2, ks, prs, nd⟩ : ([] : List (Key × V)).length ≤ sizeLine ∧ (a == sysModules) = false ∧ ∃ vs, KV [] vs ∧ s.heap.DictOf (mixKind X.prog X.w) a vs := I.hok a _ ha
  have hvs : vs = [] := by cases rel; rfl
  subst hvs
  have hes : es.toList = [] := by
    cases h : es.toList with
    | nil => rfl
    | cons x xs => rw [h] at prs; cases prs
  have rd : Reads s.heap (.ref a) (.dict []) [a] := .dict (as := []) (bs := []) e1 ex.1 e2 (by rw [hes]; exact .nil) (by rw [hes]; exact .nil)
  have na : sysModules ∉ [a] := fun z => by
    have e : sysModules = a := by simpa using z
    rw [e] at hS
    simp at hS
  exact repr_of_reads' rd rfl (fun _ => na) hg (by have : (PyData.dict []).depth = 1 := by simp [PyData.depth, PyData.depthKv]
                                                   omega) (fun _ _ e => e) (fun h' u tk hk => ⟨.str _, H, I.kept hk, ⟨_, rfl⟩, q⟩) (by decide)
theorem ok_reprX {K : PySem.W.Frag} {mg : Str → Option Value} : CallOk τ K mg (fun xs H Q => rRepr K xs H Q ∨ rDic0 xs H Q) fReprX := by
  intro φ F H S xs vs Q W g r p
  unfold fReprX at p
  split at p
  · rename_i v
    split at p
    · rename_i e
      obtain ⟨x, rfl, r1⟩ := reps1 r
      obtain ⟨a, kvs, rfl, h1, h2⟩ := ob_of g r1 e
      cases h2
      exact .inr ⟨a, rfl, h1, Post.ok g p (.str _)⟩
    · exact .inl (ok_repr g r p)
  · exact p.elim
theorem call_reprA {X : Cx} (hg : X.A.guards = some []) (hu : X.A.units + 64 < cLine) : CallR X (.builtin "repr") (fun xs H Q => rRepr X.K xs H Q ∨ rDic0 xs H Q) := (call_reprX hg hu).or (call_dic0 hg hu)
theorem reprX_plain {d : D} {S : Store} (h : d.plain = true) : fReprX [.d d] S = fRepr [.d d] S := by
  cases d <;> first | rfl | simp [PyData.plain] at h
theorem rp_reprX {n k : Nat} {d : D} {S : Store} (h : Rp n k d) (hn : n ≤ 16777216) (hk : k ≤ 60) : fReprX [.d d] S = .ok (.d (.str d.shown)) S := by
  rw [reprX_plain h.pl, rp_repr h hn hk]
@[simp] theorem reprX_dic0 {S : Store} : fReprX [.d (.dict [])] S = .ok (.d (.str (PyData.shown (.dict [])))) S := rfl
noncomputable def eAct (p : LamP) (fe : Store → Res Vl) : Ev := fun ρ S => match ρ[0]? with
  | some (some (Vl.lam q)) => open Classical in if q = p then fe S else .bad
  | _ => .bad
@[simp] theorem ap_eAct {p : LamP} {fe : Store → Res Vl} {ρ : Env} {S : Store} (h : ρ[0]? = some (some (Vl.lam p))) : eAct p fe ρ S = fe S := by
  unfold eAct
  rw [h]
  exact if_pos rfl
theorem act_ne {p : LamP} {fe : Store → Res Vl} {ρ : Env} {S : Store} (h : eAct p fe ρ S ≠ .bad) : ρ[0]? = some (some (Vl.lam p)) := by
  unfold eAct at h
  split at h
  · rename_i q e
    by_cases z : q = p
    · rw [e, z]
    · rw [if_neg z] at h; exact absurd rfl h
  · exact absurd rfl h
open Classical in
noncomputable def pickL (f : LamP → Res Vl) : Res Vl := if h : ∃ r, ∀ p, f p = r then Classical.choose h else .bad
theorem pickL_of {f : LamP → Res Vl} {r : Res Vl} (h : ∀ p, f p = r) : pickL f = r := by
  have ex : ∃ r, ∀ p, f p = r := ⟨r, h⟩
  unfold pickL
  rw [dif_pos ex]
  exact (Classical.choose_spec ex ⟨fun _ _ _ _ _ => True, fun _ _ _ h => h⟩).symm.trans (h _)
theorem pickL_at {f : LamP → Res Vl} (h : pickL f ≠ .bad) (p : LamP) : f p = pickL f := by
  by_cases ex : ∃ r, ∀ p, f p = r
  · unfold pickL
    rw [dif_pos ex]
    exact Classical.choose_spec ex p
  · exact absurd (by unfold pickL; rw [dif_neg ex]) h
noncomputable def eLam (g : Ev → Fn) (fb : Ev) : Ev := fun ρ S => pickL fun p => g (eAct p (fb ρ)) [.lam p] S
theorem eLam_of {g : Ev → Fn} {fb : Ev} {ρ : Env} {S : Store} {r : Res Vl} (h : ∀ p, g (eAct p (fb ρ)) [.lam p] S = r) : eLam g fb ρ S = r := pickL_of h
structure Lh (τ : Tb) (X : Cx) : Prop where
  ex : ∃ c P : Addr, X.env.code = .ref c ∧ LamX.TabB X.base X.mg c P ∧ (P, X.env.qual ++ "<lambda>") ∈ τ ∧ ∀ q ∈ τ, q.1 = P → q.2 = X.env.qual ++ "<lambda>"
theorem lam_run {P : Program} {w : World} {K : PySem.W.Frag} {mg : Str → Option Value} {base : Heap} {x q : Str} {st : Stmt} {f : Addr} {fd : FuncData} {N ps : List Str} {k : Nat} (F : Fun K x q st f fd) (S : FnScope N ps (defScope st))
    {B : Around} {fs : List PySem.Env} {s : Shared} {H : Hp} {as : Args} {us : List Value} {vs : List V} {Q : VK} {E : XK} (room : Room (k + 1) B) (env : Env0 P w K mg base B fs s H) (bind : BindsTo s fd as (ps.zip us)) (vals : Vals vs us) (ln : vs.length = ps.length)
    (body : ∀ (cdv : Value), Room k (B.deeper (envOfC q (defScope st) s.heap.objs.size f cdv)) → ∃ t, PSs (cxOf (L2.CX P w) P w K mg base N q (defScope st) f cdv B fs s H E) (defBody st) t ∧ t { nx := fun _ H2 => Q .non H2, rt := Q } (start N vs) H) :
    codeAny (model P w) B (.call (.ref f) as) (CR (L2.CX P w) fs P w H s Q E) s := by
  obtain ⟨oc, od, kV, doc, pm, an, cdv, ct, osl, rfl, look, code⟩ := F.ex
  have inK : K.In s.heap := env.mod.kin.keeps fun b o e => (env.bs b o e).1
  have noLim : s.heap.NoLimit := env.mod.nolimit.keeps fun b o e => (env.bs b o e).1
  refine codeAny_call_function room.depth (inK _ _ look) rfl S.co S.gen rfl (PySem.W.codeRec_of inK code) (bind _ _ _ _ ?_)
  refine wpAny_newFunctionEnv_cells S.kind (fun y hy => ?_) fun ev hev s1 ic => ?_
  · have par := S.par y.1 (List.of_mem_zip (show (y.1, y.2) ∈ ps.zip us from hy)).1
    exact par.imp (fun l => l) fun c => ⟨c, PySem.W.cellsFrom_some _ _ _ (.inl c)⟩
  · subst hev
    refine ⟨noLim.keeps ic.toInCall.keep, codeAny_func ?_⟩
    obtain ⟨t, pss, tq⟩ := body cdv (room.deeper _)
    have J := inv_start (CX := L2.CX P w) (E := E) S room.hd env ln vals ic
    refine wpAny_mono (pss.run [] s1 (start N vs) H _ J tq) (fun fl s2 done => ?_) fun _ _ out => out
    cases fl with
    | ret u =>
      obtain ⟨v, σ2, H2, J2, rv, q2⟩ := done
      exact ⟨v, H2, J2.os, J2.bare, J2.base, J2.hok, rv, q2⟩
    | next =>
      obtain ⟨σ2, H2, J2, q2⟩ := done
      exact ⟨.non, H2, J2.os, J2.bare, J2.base, J2.hok, rfl, q2⟩
    | brk =>
      obtain ⟨_, _, _, z⟩ := done
      exact (show False from z).elim
    | cont =>
      obtain ⟨_, _, _, z⟩ := done
      exact (show False from z).elim
structure LamN (N : List Str) (sc scope : Scope) (ns : List Str) : Prop where
  kind : scope.kind = .function
  co : scope.isCoroutine = false
  gen : scope.isGenerator = false
  own : ∀ y ∈ scope.names, y.2 ≠ .cell ∧ (y.2 = .local → y.1 ∉ N)
  par : ∀ x ∈ ns, scope.names.lookup x = some .local
  free : ∀ y ∈ scope.names, y.2 = .free → sc.names.lookup y.1 = some .cell ∨ sc.names.lookup y.1 = some .free
def lamNB (N : List Str) (sc scope : Scope) (ns : List Str) : Bool :=
  decide (scope.kind = .function) && (!scope.isCoroutine && (!scope.isGenerator && (ns.all (fun x => decide (scope.names.lookup x = some .local)) && scope.names.all fun y => !decide (y.2 = .cell) && ((!decide (y.2 = .local) || !N.contains y.1) && (!decide (y.2 = .free) || (decide (sc.names.lookup y.1 = some .cell) || decide (sc.names.lookup y.1 = some .free)))))))
theorem lamN_by {N : List Str} {sc scope : Scope} {ns : List Str} (h : lamNB N sc scope ns = true) : LamN N sc scope ns := by
  simp only [lamNB, Bool.and_eq_true, Bool.or_eq_true, Bool.not_eq_true', decide_eq_true_eq, decide_eq_false_iff_not, List.all_eq_true] at h
  obtain ⟨a, b, c, d, e⟩ := h
  refine ⟨a, b, c, fun y hy => ⟨(e y hy).1, fun z => ?_⟩, d, fun y hy z => ?_⟩
  · rcases (e y hy).2.1 with w | w
    · exact absurd z w
    · intro m
      have : N.contains y.1 = true := by simpa using m
      rw [this] at w; cases w
  · exact (e y hy).2.2.elim (fun w => absurd z w) id
theorem LamN.has {X : Cx} {scope : Scope} {ns : List Str} (L : LamN X.N X.env.scope scope ns) (ok : X.Ok) : ∀ y ∈ scope.names, y.2 = .free → ∃ c, X.env.cells.lookup y.1 = some c := fun y hy e => ok.has _ (L.free y hy e)
theorem cc_lam {X : Cx} {A : Around} {outer : List PySem.Env} {s : Shared} {H : Hp} {E : XK} {scope : Scope} {f c' : Addr} {k : Nat} (nd : X.N.Nodup) (rm : Room k (A.deeper (LamX.lamEnv X scope s.heap.objs.size f c'))) (gd : A.guards = some []) :
    Cc (LamX.lamCx X A outer s H E scope f c') (wD E) k := ⟨rfl, nd, takes_of rfl rfl rfl rfl, rm, passes_of rfl, gd⟩
theorem lam_begin {X : Cx} {pins : List (Addr × Obj)} {σ : L2.St} {H H1 : Hp} {s s1 : Shared} {A : Around} {outer : List PySem.Env} {E : XK} {scope : Scope} {f c' : Addr} {h1 : Heap} {tk : Nat} {ns : List Str} {m : Str → Option Value} (I : Inv X pins σ H s) (L : LamN X.N X.env.scope scope ns) (env : Env0 X.prog X.w X.K X.mg X.base A outer s1 H1) (hd : A.handled = none)
    (un : Un (L2.frs X.stack) [] H H1 s.heap s1.heap) (own : h1.Ns s1.heap.objs.size m) (up : ∀ b o, s1.heap.get? b = some o → h1.get? b = some o) : Inv (LamX.lamCx X A outer s1 H1 E scope f c') [] σ H1 { s1 with heap := h1, toks := tk } := by
  have has := L.has I.ok
  -- a cell of the lambda is a cell of its maker
  have mine : ∀ {y c}, (cloFrom X.env.cells scope.names []).lookup y = some c → X.env.cells.lookup y = some c := fun {y c} e => by
    rcases cloFrom_mem (PySem.mem_of_lookup e) with z | ⟨z1, z2⟩
    · cases z
    · obtain ⟨d, hd⟩ := has _ z1 rfl
      have hd : X.env.cells.lookup y = some d := hd
      rw [show c = d by rw [z2, hd]; rfl, hd]
  have there : ∀ {y}, scope.names.lookup y = some .free → ∃ c, (cloFrom X.env.cells scope.names []).lookup y = some c := fun {y} e => mem_lookup (cloFrom_has (cells := X.env.cells) (acc := []) (PySem.mem_of_lookup e))
  have cells : ∀ {c : Addr} {v : Option Value}, H c = none → s.heap.IsCell c v → h1.IsCell c v := fun {c v} n ⟨o, e, d⟩ => (un.any e n (by simp)).elim fun sl q => ⟨_, up _ _ q, d⟩
  have noEx : ∀ b : Addr, b ∉ (LamX.lamCx X A outer s1 H1 E scope f c').ex := fun b z => nomatch (show b ∈ ([] : List Addr) from z)
  have okL : Cx.Ok (LamX.lamCx X A outer s1 H1 E scope f c') :=
    { mod := env.mod, kind := L.kind, glob := rfl, blt := rfl, above := Nat.le_refl _, inj := fun x y c e1 e2 => I.ok.inj x y c (mine e1) (mine e2),
      has := fun y hy => by
        have hy : scope.names.lookup y = some .cell ∨ scope.names.lookup y = some .free := hy
        exact hy.elim (fun z => absurd rfl (L.own _ (PySem.mem_of_lookup z)).1) there
      cab := fun y c z _ => (nomatch (show false = true from z)), hd := fun _ => hd, frames := Around.frames_deeper env.frames, stk := .inr ⟨rfl, rfl⟩, exf := fun b z => absurd z (noEx b), bs := env.bs, bsz := env.bsz, noex := fun b _ _ => noEx b,
      exfs := fun b z => absurd z (noEx b), funs := env.funs, frf := env.frf }
  refine ⟨okL, rfl, env.bare, Un.kept up, ⟨m, own, fun i y v e1 e2 vis => ?_⟩, fun y c e => ?_, env.hok.fresh (Nat.le_refl _), fun y c e => ?_, fun q hq => (nomatch (show q ∈ ([] : List (Addr × Obj)) ++ [] from hq)), env.hok.kept up, I.len⟩
  · have vis : Vis scope y := vis
    have e1 : X.N[i]? = some y := e1
    rcases vis with z | z | z
    · exact absurd (List.mem_of_getElem? e1) ((L.own _ (PySem.mem_of_lookup z)).2 rfl)
    · exact absurd rfl (L.own _ (PySem.mem_of_lookup z)).1
    · obtain ⟨m0, _, look⟩ := I.loc
      have outside := L.free _ (PySem.mem_of_lookup z) rfl
      obtain ⟨u, ru, q⟩ := look i y v e1 e2 (outside.elim (fun w => .inr (.inl w)) fun w => .inr (.inr w))
      obtain ⟨c, hc⟩ := there z
      refine ⟨u, ru, .inr ⟨.inr z, c, hc, ?_⟩⟩
      rcases q with ⟨q, _⟩ | ⟨_, d, hd, q⟩
      · have q : X.env.scope.names.lookup y = some .local := q
        rcases outside with w | w <;> · rw [show X.env.scope.names.lookup y = _ from w] at q; cases q
      · have hc2 := mine hc
        rw [hd] at hc2
        cases hc2
        exact cells (I.freeC y _ hd) q
  · obtain ⟨v, q⟩ := I.cell y c (mine e)
    exact ⟨v, cells (I.freeC y c (mine e)) q⟩
  · obtain ⟨v, o, q, _⟩ := I.cell y c (mine e)
    exact un.free c o q (I.freeC y c (mine e)) (by simp)
theorem de_act {X : Cx} {pins : List (Addr × Obj)} {σ : L2.St} {H : Hp} {s : Shared} {N : List Str} {q : Str} {st : Stmt} {g f c' : Addr} {cdv pm ctv dV doc : Value} {params : Arguments} {body : Expr} {scope : Scope} {k : Nat} {a : Str} {W : WX} {E : XK} {fb : Ev} {ρ : Env} {p1 p2 : Pos} {p0 : LamP} {pn : List (Addr × Obj)} {xe : Value → Shared → Prop} {ns : List Str}
    (I : Inv X pins σ H s) (L : LamN X.N X.env.scope scope ns) (ob : s.heap.get? f = some (PySem.W.kdv_obj "<lambda>" (X.env.qual ++ "<lambda>") params (.expr body) scope (cloFrom X.env.cells scope.names []) dV doc pm c' ctv)) (hn : H f = none) (hfr : f ∉ L2.frs X.stack)
    (bnd : ∀ (s2 : Shared), (∀ b o, s.heap.get? b = some o → H b = none → b ∉ L2.frs X.stack → s2.heap.get? b = some o) → ∃ binds : List (Str × Value), (∀ y ∈ binds, y.1 ∈ ns) ∧ BindsTo s2 (PySem.W.kdv_fn "<lambda>" (X.env.qual ++ "<lambda>") params (.expr body) scope (cloFrom X.env.cells scope.names []) dV doc pm (.ref c') ctv) ⟨[], []⟩ binds)
    (tk : Takes ((cxD X.prog X.w X.K X.mg X.base N q st g cdv X.A X.stack s H E).tr pn xe) W) (room : Room (k + 1) (X.A.deeper (envOfC q (defScope st) s.heap.objs.size g cdv)))
    (rd : ∀ (A : Around) (outer : List PySem.Env) (s : Shared) (H : Hp) (E : XK), A.guards = X.A.guards → Room k (A.deeper (LamX.lamEnv X scope s.heap.objs.size f c')) → DE τ (LamX.lamCx X A outer s H E scope f c') (wD E) body fb)
    (tells : ∀ φ F H n v, p0.P φ F H n v → v = .ref f ∧ H c' = some (LamX.CodeO c' (X.env.qual ++ "<lambda>")) ∧ Slots X.K X.mg φ F H n σ ρ)
    (h0 : N[0]? = some a) (vis : Vis (defScope st) a) (d1 : (a == ("__debug__" : Str)) = false) (d2 : (a == ("__classdict__" : Str)) = false) :
    DE τ ((cxD X.prog X.w X.K X.mg X.base N q st g cdv X.A X.stack s H E).tr pn xe) W (.Call (.Name a p1) [] [] p2) (eAct p0 (fb ρ)) := by
  refine ⟨⟨fun pinsZ sZ σZ HZ QZ IZ ⟨φ, F, ρZ, SZ, sg, slZ, post⟩ => ?_⟩⟩
  have nb : eAct p0 (fb ρ) ρZ SZ ≠ .bad := fun e => by rw [e] at post; exact post
  have at0 := act_ne nb
  rw [ap_eAct at0] at post
  obtain ⟨v, hv, rv⟩ := slZ.2 0 _ at0
  obtain ⟨rfl, hc, sl⟩ := tells _ _ _ _ _ rv
  refine wpAny_Call_Name_kw (thn ((pe_var (pos := p1) (i := 0) h0 vis d1 d2).run pinsZ sZ σZ HZ (fun v H1 => v = .ref f ∧ H1 = HZ) IZ ⟨_, hv, rfl, rfl⟩) fun u s1 ⟨v, H1, I1, r1, ev, eH⟩ => ?_)
  subst ev eH
  obtain rfl : u = Value.ref f := r1
  have kept : ∀ b o, s.heap.get? b = some o → H b = none → b ∉ L2.frs X.stack → s1.heap.get? b = some o := fun b o e1 e2 e3 => I1.base.keep b o e1 e2 e3 (fun z => nomatch (show b ∈ ([] : List Addr) from z))
  have keepF := kept f _ ob hn hfr
  refine PySem.W.callWith_F0 ⟨_, _, _, _, keepF⟩ ?_
  obtain ⟨⟨oc, vs, t, o1, o2, o3⟩, _, _⟩ := I1.hok c' _ hc
  have run : codeAny (model X.prog X.w) (X.A.deeper (envOfC q (defScope st) s.heap.objs.size g cdv)) (.call (.ref f) ⟨[], []⟩) (CR (L2.CX X.prog X.w) (envOfC q (defScope st) s.heap.objs.size g cdv :: X.stack) X.prog X.w H1 s1 QZ fun cls d H2 => W cls d σZ H2) s1 := by
    refine PySem.W.kla_callFunE room.depth keepF rfl L.co L.gen rfl ⟨c', oc, vs, t, rfl, o1, o2, o3⟩ ?_
    obtain ⟨binds, hb, bd⟩ := bnd s1 kept
    refine bd _ _ _ _ (wpAny_newFunctionEnv (fun y hy => (L.own y hy).1) (fun y hy => L.par _ (hb y hy)) (fun h1 ns new => ⟨I1.nolimit.fresh _ new, ?_⟩) L.kind)
    show codeAny _ _ (.expr body (LamX.lamEnv X scope s1.heap.objs.size f c')) _ _
    have stays : ∀ b o, s1.heap.get? b = some o → h1.get? b = some o := fun b o e => new.extBut b o (Nat.ne_of_lt (Heap.lt_size e)) (Heap.get?_push_of_some _ e)
    have J := lam_begin (E := fun cls d H2 => W cls d σZ H2) (f := f) (c' := c') (tk := s1.toks + binds.length) I L I1.env0 room.hd I1.base ns stays
    refine PySem.W.kla_codeExpr (wpAny_mono ((rd (X.A.deeper (envOfC q (defScope st) s.heap.objs.size g cdv)) _ s1 H1 _ rfl (room.deeper _)).r.run [] _ _ H1 QZ J ⟨φ, F, ρ, SZ, sg, sl, post⟩) (fun v s2 done => ?_) fun _ _ z => z)
    obtain ⟨w2, H2, J2, rv2, q2⟩ := done
    exact ⟨w2, H2, J2.os, J2.bare, J2.base, J2.hok, rv2, q2⟩
  refine wpAny_call (codeAny_mono run fun r s2 done => ?_)
  cases r with
  | error e => exact tk e s2 (XE.of_call I1 (fun _ _ _ z => z) done)
  | ok fl =>
    cases fl with
    | ret u => exact I1.after done
    | next => exact done.elim
    | brk => exact done.elim
    | cont => exact done.elim
def Made (H H1 : Hp) (P c : Addr) (q : Str) : Prop := (H1 = H ∧ H c = some (LamX.CodeO c q)) ∨ ∃ ps more : Array Value, H P = some (.tbl ps) ∧ H c = none ∧ H1 = upd (upd H P (.tbl (ps ++ more))) c (LamX.CodeO c q)
theorem Made.at {H H1 : Hp} {P c : Addr} {q : Str} (m : Made H H1 P c q) : H1 c = some (LamX.CodeO c q) := by
  rcases m with ⟨rfl, e⟩ | ⟨ps, more, _, _, rfl⟩
  · exact e
  · exact upd_same
theorem Made.else {H H1 : Hp} {P c a : Addr} {q : Str} (m : Made H H1 P c q) (h1 : a ≠ P) (h2 : a ≠ c) : H1 a = H a := by
  rcases m with ⟨rfl, e⟩ | ⟨ps, more, _, _, rfl⟩
  · rfl
  · rw [upd_ne h2, upd_ne h1]
theorem Made.tbl {H H1 : Hp} {P c : Addr} {q : Str} {ps : Array Value} (m : Made H H1 P c q) (h : H P = some (.tbl ps)) : ∃ ps', H1 P = some (.tbl ps') := by
  rcases m with ⟨rfl, e⟩ | ⟨ps', more, e1, e2, rfl⟩
  · exact ⟨_, h⟩
  · refine ⟨_, (upd_ne fun z => ?_).trans upd_same⟩
    rw [z, e2] at e1; cases e1
section
variable {τ : Tb} {K : PySem.W.Frag} {mg : Str → Option Value} {φ : Nat → Addr} {F : Addr → Prop} {H H1 : Hp} {S : Store} {P c : Addr} {q : Str}
theorem SG.made (g : SG τ K φ F H S) (m : Made H H1 P c q) (hP : ∃ q', (P, q') ∈ τ) (t : LamX.Tabs τ H1) : Now τ K S.length φ F H φ (fun a => F a ∨ a = c) H1 S := by
  obtain ⟨q', hq'⟩ := hP
  obtain ⟨psP, atP, _⟩ := g.tab _ hq'
  have notP : ∀ a, F a → a ≠ P := fun a ha z => g.ntab _ hq' (z ▸ ha)
  have ofC : H c = none ∨ F c := by
    rcases m with ⟨_, e⟩ | ⟨_, _, _, e, _⟩
    · exact .inr (g.codes _ _ _ e)
    · exact .inl e
  have codeEq : H c ≠ none → H1 = H := fun h => by
    rcases m with ⟨e, _⟩ | ⟨_, _, _, e, _⟩
    · exact e
    · exact absurd e h
  have same : ∀ a, F a → H1 a = H a := fun a ha => by
    by_cases z : a = c
    · subst z; rw [codeEq (g.dom a ha)]
    · exact m.else (notP a ha) z
  have stay : ∀ a, H a ≠ none → a ≠ P → H1 a = H a := fun a ha hP => by
    by_cases z : a = c
    · subst z; rw [codeEq ha]
    · exact m.else hP z
  have alive : ∀ a, H a ≠ none → H1 a ≠ none := fun a ha => by
    by_cases z : a = P
    · obtain ⟨ps, e⟩ := m.tbl atP
      rw [z, e]; simp
    · rw [stay a ha z]; exact ha
  have notTbl : ∀ i o, S[i]? = some o → o.live = true → φ i ≠ P ∧ φ i ≠ c := fun i o ho hv => by
    obtain ⟨u, hu, pu⟩ := (g.obj i o ho).plain hv
    refine ⟨fun z => ?_, fun z => ?_⟩
    · rw [z, atP] at hu
      exact pu.1 _ (Option.some.inj hu).symm
    · rcases ofC with e | e
      · rw [z, e] at hu; cases hu
      · exact (g.obj i o ho).there.2 hv (z ▸ e)
  refine ⟨⟨fun _ h => .inl h, same, fun _ _ => rfl⟩, ⟨fun a h => ?_, fun i o h => ?_, g.inj, t, fun p hp z => z.elim (g.ntab p hp) fun z => ?_, fun a ps h => ?_, fun a c2 q2 h => ?_⟩, Nat.le_refl _, fun a ha ht _ => stay a ha fun z => ht psP (z ▸ atP), alive, fun i h1 h2 => absurd h2 (Nat.not_lt.mpr h1), fun a (h : F a ∨ a = c) => ?_⟩
  · rcases h with h | h
    · rw [same a h]; exact g.dom a h
    · rw [h, m.at]; simp
  · have mo := g.obj i o h
    cases o with
    | lst ds => exact mo.ext (fun _ h => .inl h) same (fun hv h1 h2 => h2.elim h1 (notTbl i _ h hv).2) (m.else (notTbl i _ h rfl).1 (notTbl i _ h rfl).2)
    | dct es => exact mo.ext (fun _ h => .inl h) same (fun hv h1 h2 => h2.elim h1 (notTbl i _ h hv).2) (m.else (notTbl i _ h rfl).1 (notTbl i _ h rfl).2)
    | fz x => exact ⟨mo.1.ext (fun _ h => .inl h) same, alive _ mo.2⟩
  · obtain ⟨ps, h1, _⟩ := t p hp
    rw [z, m.at] at h1
    exact LamX.codeO_ne ps (Option.some.inj h1)
  · by_cases z : a = P
    · exact ⟨_, hq', z.symm⟩
    · by_cases z2 : a = c
      · rw [z2, m.at] at h
        exact absurd (Option.some.inj h) (LamX.codeO_ne ps)
      · rw [m.else z z2] at h
        exact g.only a ps h
  · by_cases z2 : a = c
    · exact .inr z2
    · by_cases z : a = P
      · obtain ⟨ps, e⟩ := m.tbl atP
        rw [z, e] at h
        exact absurd (Option.some.inj h).symm (by unfold LamX.CodeO; intro y; cases y)
      · rw [m.else z z2] at h
        exact .inl (g.codes a c2 q2 h)
  · rcases h with h | h
    · exact .inl h
    · subst h
      exact ofC.elim (fun e => .inr (.inl e)) .inl
end
theorem lam_tail {X : Cx} {pins : List (Addr × Obj)} {σ : L2.St} {H : Hp} {s : Shared} {τ : Tb} {c P : Addr} {params : Arguments} {body : Expr} {scope : Scope} {pos : Pos} {E Q : Value → Shared → Prop} {dV : Value} {line : Nat} (I : Inv X pins σ H s)
    (tb : LamX.TabB X.base X.mg c P) (code : X.env.code = .ref c) (inT : (P, X.env.qual ++ "<lambda>") ∈ τ) (one : ∀ p ∈ τ, p.1 = P → p.2 = X.env.qual ++ "<lambda>") (ts : LamX.Tabs τ H) (fr : ∀ y ∈ scope.names, y.2 = .free → ∃ c, X.env.cells.lookup y.1 = some c)
    (go : ∀ (f c' : Addr) (pm ctv doc : Value) (H1 : Hp) (s' : Shared), Inv X pins σ H1 s' → Made H H1 P c' (X.env.qual ++ "<lambda>") → LamX.Tabs τ H1 →
      s'.heap.get? f = some (PySem.W.kdv_obj "<lambda>" (X.env.qual ++ "<lambda>") params (.expr body) scope (cloFrom X.env.cells scope.names []) dV doc pm c' ctv) → H1 f = none → f ∉ L2.frs X.stack → s.heap.objs.size ≤ f → (∀ b o, s.heap.get? b = some o → H b = none → s'.heap.get? b = some o ∧ H1 b = none) → Q (.ref f) s') :
    wpAny (model X.prog X.w) X.A (makeTail "<lambda>" (X.env.qual ++ "<lambda>") params (.expr body) scope X.env dV .none none pos line) Q E s := by
  obtain ⟨ps, atP, tri, tells⟩ := ts _ inT
  have bm := tb.bm.keeps I.bk
  have obP : s.heap.get? P = some { cls := .none, data := .fields ps } := I.hok P _ atP
  have far : ∀ f, s.heap.objs.size ≤ f → f ∉ L2.frs X.stack := fun f hf z => (List.mem_cons.mp (I.stkSub _ z)).elim (fun e => absurd (e ▸ I.lt) (Nat.not_lt.mpr hf)) fun e => I.nofs hf e
  cases found : codeAmong pos ps.toList with
  | some cv =>
    obtain ⟨c', rfl, known⟩ := tells pos cv found
    refine PySem.W.kdv_makeTailHit (closure_ok fr) I.ok.glob (I.mod.glob.keeps I.bk) code (tb.code.keeps I.bk) obP tri found bm fun ctv doc h2 tk up sz => ?_
    exact go _ c' _ ctv doc H _ (I.kept fun b o e => Heap.get?_push_of_some _ (up b o e)) (.inl ⟨rfl, known⟩) ts (Heap.get?_push_size _ rfl) (I.hok.fresh sz) (far _ sz) sz fun b o e n => ⟨Heap.get?_push_of_some _ (up b o e), n⟩
  | none =>
    refine PySem.W.kdv_makeTail (closure_ok fr) I.ok.glob (I.mod.glob.keeps I.bk) code (tb.code.keeps I.bk) obP tri found tb.gP bm fun c' ctv doc h2 tk up ge lt rec there => ?_
    obtain ⟨_, oc, vs, t, ec, o1, o2, o3⟩ := rec
    cases ec
    have le2 : s.heap.objs.size ≤ h2.objs.size := Nat.le_trans ge (Nat.le_of_lt lt)
    have new : H c' = none := I.hok.fresh ge
    have m : Made H (upd (upd H P (.tbl (ps ++ #[rawInt pos.line, rawInt pos.col, .ref c']))) c' (LamX.CodeO c' (X.env.qual ++ "<lambda>"))) P c' (X.env.qual ++ "<lambda>") := .inr ⟨ps, _, atP, new, rfl⟩
    have J := LamX.inv_table (t' := tk) (q := X.env.qual ++ "<lambda>") (more := #[rawInt pos.line, rawInt pos.col, .ref c']) (h' := h2.push (PySem.W.kdv_obj "<lambda>" (X.env.qual ++ "<lambda>") params (.expr body) scope (cloFrom X.env.cells scope.names []) dV doc ((X.mg "__name__").getD .none) c' ctv)) I atP
      (fun b o nb e => Heap.get?_push_of_some _ (up b o nb e)) (Heap.get?_push_of_some _ there) ge ⟨oc, vs, t, Heap.get?_push_of_some _ o1, o2, o3⟩
    have list : (ps ++ #[rawInt pos.line, rawInt pos.col, .ref c']).toList = ps.toList ++ [rawInt pos.line, rawInt pos.col, .ref c'] := by simp
    have nPc : P ≠ c' := fun z => by rw [z, new] at atP; cases atP
    have keepC : ∀ c0 q, H c0 = some (LamX.CodeO c0 q) → upd (upd H P (.tbl (ps ++ #[rawInt pos.line, rawInt pos.col, .ref c']))) c' (LamX.CodeO c' (X.env.qual ++ "<lambda>")) c0 = some (LamX.CodeO c0 q) := fun c0 q e => by
      rw [m.else (fun z => by rw [z, atP] at e; exact LamX.codeO_ne ps (Option.some.inj e).symm) (fun z => by rw [z, new] at e; cases e)]
      exact e
    have ltP : ∀ b, s.heap.objs.size ≤ b → b ≠ P := fun b hb z => Nat.lt_irrefl _ (Nat.lt_of_lt_of_le (Heap.lt_size obP) (z ▸ hb))
    refine go h2.objs.size c' ((X.mg "__name__").getD .none) ctv doc _ _ J m (fun p hp => ?_) (Heap.get?_push_size _ rfl) ((m.else (ltP _ le2) (Nat.ne_of_gt lt)).trans (I.hok.fresh le2)) (far _ le2) le2 fun b o e n => ?_
    · by_cases z : p.1 = P
      · rw [one p hp z, z]
        refine ⟨_, (upd_ne nPc).trans upd_same, by rw [list]; exact PySem.TriplesOk_snoc _ _ _ _ tri, fun p2 cv h => ?_⟩
        rw [list] at h
        rcases LamX.among_app _ tri h with h | h
        · obtain ⟨c0, e1, e2⟩ := tells p2 cv h
          exact ⟨c0, e1, keepC _ _ e2⟩
        · exact ⟨c', h, upd_same⟩
      · obtain ⟨ps2, e1, e2, e3⟩ := ts p hp
        refine ⟨ps2, (m.else z fun y => ?_).trans e1, e2, fun p2 cv h => ?_⟩
        · rw [y, new] at e1; cases e1
        · obtain ⟨c0, a1, a2⟩ := e3 p2 cv h
          exact ⟨c0, a1, keepC _ _ a2⟩
    · have bP : b ≠ P := fun z => by rw [z, atP] at n; cases n
      have bc : b ≠ c' := fun z => Nat.lt_irrefl _ (Nat.lt_of_lt_of_le (Heap.lt_size e) (z ▸ ge))
      exact ⟨Heap.get?_push_of_some _ (up b o bP e), (m.else bP bc).trans n⟩
inductive LamParams (X : Cx) (params : Arguments) (body : Expr) (scope : Scope) : List Str → Prop where
  | none : defaultsOf params X.env = ([], []) → (∀ (s : Shared) (q : Str) (cl : List (Str × Addr)) (doc pm cv ctv : Value), BindsTo s (PySem.W.kdv_fn "<lambda>" q params (.expr body) scope cl .none doc pm cv ctv) ⟨[], []⟩ []) → LamParams X params body scope []
  | int {x : Str} {i : Int} {j : Nat} {p0 : Pos} : params.defaults = [.Constant (.int i) j p0] → params.kw_defaults = [] →
      (∀ (s : Shared) (q : Str) (cl : List (Str × Addr)) (T : Addr) (doc pm cv ctv v : Value), s.heap.get? T = some (PySem.W.kdv_tup [v]) → BindsTo s (PySem.W.kdv_fn "<lambda>" q params (.expr body) scope cl (.ref T) doc pm cv ctv) ⟨[], []⟩ [(x, v)]) → LamParams X params body scope [x]
theorem lam_new {X : Cx} {pins : List (Addr × Obj)} {σ : L2.St} {H : Hp} {s : Shared} {τ : Tb} {c P : Addr} {params : Arguments} {body : Expr} {scope : Scope} {pos : Pos} {E Q : Value → Shared → Prop} {ns : List Str} (I : Inv X pins σ H s)
    (tb : LamX.TabB X.base X.mg c P) (code : X.env.code = .ref c) (inT : (P, X.env.qual ++ "<lambda>") ∈ τ) (one : ∀ p ∈ τ, p.1 = P → p.2 = X.env.qual ++ "<lambda>") (ts : LamX.Tabs τ H) (pa : LamParams X params body scope ns) (fr : ∀ y ∈ scope.names, y.2 = .free → ∃ c, X.env.cells.lookup y.1 = some c)
    (go : ∀ (f c' : Addr) (pm ctv doc dV : Value) (H1 : Hp) (s' : Shared), Inv X pins σ H1 s' → Made H H1 P c' (X.env.qual ++ "<lambda>") → LamX.Tabs τ H1 →
      s'.heap.get? f = some (PySem.W.kdv_obj "<lambda>" (X.env.qual ++ "<lambda>") params (.expr body) scope (cloFrom X.env.cells scope.names []) dV doc pm c' ctv) → H1 f = none → f ∉ L2.frs X.stack →
      (∀ (s2 : Shared), (∀ b o, s'.heap.get? b = some o → H1 b = none → b ∉ L2.frs X.stack → s2.heap.get? b = some o) → ∃ binds : List (Str × Value), (∀ y ∈ binds, y.1 ∈ ns) ∧ BindsTo s2 (PySem.W.kdv_fn "<lambda>" (X.env.qual ++ "<lambda>") params (.expr body) scope (cloFrom X.env.cells scope.names []) dV doc pm (.ref c') ctv) ⟨[], []⟩ binds) → Q (.ref f) s') :
    wpAny (model X.prog X.w) X.A (eval (.Lambda params body scope pos) X.env) Q E s := by
  have far : ∀ f, s.heap.objs.size ≤ f → f ∉ L2.frs X.stack := fun f hf z => (List.mem_cons.mp (I.stkSub _ z)).elim (fun e => absurd (e ▸ I.lt) (Nat.not_lt.mpr hf)) fun e => I.nofs hf e
  cases pa with
  | none d b =>
    refine PySem.W.kla_eval d ?_
    rw [makeFunction_eq]
    simp only [List.zip_nil_right, List.filterMap_nil, List.isEmpty_nil, if_true, pure_bind]
    exact lam_tail I tb code inT one ts fr fun f c' pm ctv doc H1 s' J m t ob hn hf _ _ => go f c' pm ctv doc .none H1 s' J m t ob hn hf fun s2 _ => ⟨[], fun _ z => (nomatch z), b _ _ _ _ _ _ _⟩
  | @int x i j p0 d d2 b =>
    refine PySem.W.kdv_lam (by rw [d]; rfl) d2 ?_
    rw [d]
    refine PySem.W.kdv_all1 (thn ((pe_int (i := i) (j := j) (pos := p0)).run pins s σ H (fun v H1 => v = .int i ∧ H1 = H) I ⟨rfl, rfl⟩) fun u s1 ⟨v, H1, I1, r1, ev, eH⟩ => ?_)
    subst ev eH
    refine PySem.W.kdv_all0 ?_
    rw [makeFunction_eq]
    simp only [List.zip_nil_right, List.filterMap_nil, List.isEmpty_nil, List.isEmpty_cons, Bool.false_eq_true, if_false, if_true, pure_bind]
    refine wpAny_bind (wpAny_newTextTuple ?_)
    have J1 := I1.kept (t' := s1.toks) (h' := s1.heap.push { cls := .type "tuple", data := .seq [u].toArray }) fun b o e => Heap.get?_push_of_some _ e
    have farT : s1.heap.objs.size ∉ L2.frs X.stack := fun z => (List.mem_cons.mp (I1.stkSub _ z)).elim (fun e => absurd (e ▸ I1.lt) (Nat.lt_irrefl _)) fun e => I1.nofs (Nat.le_refl _) e
    refine lam_tail J1 tb code inT one ts fr fun f c' pm ctv doc H2 s' J m t ob hn hf _ keep => go f c' pm ctv doc _ H2 s' J m t ob hn hf fun s2 up => ⟨[(x, u)], fun y hy => by rw [List.mem_singleton.mp hy]; simp, ?_⟩
    obtain ⟨k1, k2⟩ := keep s1.heap.objs.size _ (Heap.get?_push_size _ rfl) (I1.hok.fresh (Nat.le_refl _))
    exact b s2 _ _ _ _ _ _ _ u (up _ _ k1 k2 farT)
structure LamOk (τ : Tb) (P : Program) (w : World) (K : PySem.W.Frag) (mg : Str → Option Value) (base : Heap) (k : Nat) (x : Str) (gw : Ev → Fn) : Prop where
  ex : ∃ (f : Addr) (y a : Str) (st : Stmt) (fd : FuncData) (N : List Str) (b : Ev → Sv), Fun K y y st f fd ∧ mg x = some (.ref f) ∧ PySem.W.keepIn K (.ref f) = true ∧ Binds K fd [a] [] ∧ FnScope N [a] (defScope st) ∧ N[0]? = some a ∧ Vis (defScope st) a ∧
    (a == ("__debug__" : Str)) = false ∧ (a == ("__classdict__" : Str)) = false ∧ (∀ act, gw act = fnOf N.length (b act)) ∧
    ∀ (cdv : Value) (B : Around) (fs : List PySem.Env) (s : Shared) (H : Hp) (E : XK) (act : Ev), Cc (cxD P w K mg base N y st f cdv B fs s H E) (wD E) k →
      (∀ (W : WX) (pn : List (Addr × Obj)) (xe : Value → Shared → Prop) (p1 p2 : Pos), Takes ((cxD P w K mg base N y st f cdv B fs s H E).tr pn xe) W → DE τ ((cxD P w K mg base N y st f cdv B fs s H E).tr pn xe) W (.Call (.Name a p1) [] [] p2) act) →
      DB τ (cxD P w K mg base N y st f cdv B fs s H E) (wD E) (defBody st) (b act)
theorem de_lam {X : Cx} {W : WX} {j k k' : Nat} {x : Str} {gw : Ev → Fn} {params : Arguments} {body : Expr} {scope : Scope} {lpos p pos : Pos} {fb : Ev} (G : LamOk τ X.prog X.w X.K X.mg X.base k x gw) (cc : Cc X W (j + 2)) (lh : Lh τ X) (hk : k ≤ j + 1) (hk' : k' ≤ j) (hg : Gl X x) {ns : List Str} (L : LamN X.N X.env.scope scope ns) (pa : LamParams X params body scope ns)
    (rd : ∀ (A : Around) (outer : List PySem.Env) (s : Shared) (H : Hp) (E : XK) (f c' : Addr), Cc (LamX.lamCx X A outer s H E scope f c') (wD E) k' → DE τ (LamX.lamCx X A outer s H E scope f c') (wD E) body fb)
    (hdb : (x == ("__debug__" : Str)) = false := by decide) : DE τ X W (.Call (.Name x p) [.Lambda params body scope lpos] [] pos) (eLam gw fb) := by
  obtain ⟨c, P, code, tb, inT, one⟩ := lh.ex
  obtain ⟨g, y, a, st, fd, N, b, Fu, there, keep, bi, Sc, h0, vis, d1, d2, gwb, read⟩ := G.ex
  refine ⟨⟨fun pins s σ H Q I ⟨φ, F, ρ, S, sg, sl, post⟩ => ?_⟩⟩
  refine wpAny_Call_Name_kw (ld_glob I hg there ?_ hdb)
  refine PySem.W.callWith_K (h₀ := X.base) I.ok.mod.kin keep ?_ (by rfl) (by rfl)
  show wpAny _ _ (spliced ((false, eval (.Lambda params body scope lpos) X.env) :: backTo pos (starEach [] X.env))) _ _ s
  refine Calls.spliced_cons (lam_new I tb code inT one sg.tab pa (L.has I.ok) fun f c' pm ctv doc dV H1 s1 I1 m t1 ob hn hfr bnd => ?_)
  refine Calls.spliced_nil ⟨I1.kIn, ?_⟩
  have nw := sg.made m ⟨_, inT⟩ t1
  -- what stands for the lambda
  let p0 : LamP := ⟨fun φ F H n v => v = .ref f ∧ F c' ∧ H c' = some (LamX.CodeO c' (X.env.qual ++ "<lambda>")) ∧ Slots X.K X.mg φ F H n σ ρ, fun v e h ⟨h1, h2, h3, h4⟩ => ⟨h1, e.sub _ h2, (e.same _ h2).trans h3, h4.ext e h⟩⟩
  have nb : pickL (fun p => gw (eAct p (fb ρ)) [.lam p] S) ≠ .bad := fun z => by
    have post : PostG τ X.K X.mg (RepV X.K X.mg) (fun c od H' => W c od σ H') S.length φ F H Q (pickL fun p => gw (eAct p (fb ρ)) [.lam p] S) := post
    rw [z] at post
    exact post
  have post1 : Post τ X.K X.mg (fun c od H' => W c od σ H') S.length φ (fun a => F a ∨ a = c') H1 Q (gw (eAct p0 (fb ρ)) [.lam p0] S) := by
    rw [pickL_at nb p0]
    exact PostG.start sg nw post
  have repV : RepVs X.K X.mg φ (fun a => F a ∨ a = c') H1 S.length [.ref f] [.lam p0] := ⟨⟨rfl, .inr rfl, m.at, sl.now nw⟩, trivial⟩
  have bd := bi s1 [.ref f] I1.kIn rfl
  rw [List.append_nil] at bd
  have run : codeAny (model X.prog X.w) X.A (.call (.ref g) ⟨[.ref f], []⟩) (CR (L2.CX X.prog X.w) X.stack X.prog X.w H1 s1 Q fun c d H2 => W c d σ H2) s1 := by
    refine lam_run (N := N) (ps := [a]) (us := [.ref f]) (vs := [.ref f]) (k := j + 1) Fu Sc cc.rm I1.env0 bd (.cons rfl .nil) rfl fun cdv room => ?_
    refine ⟨_, (read cdv X.A X.stack s1 H1 _ (eAct p0 (fb ρ)) (cc_def Sc.nd (room.mono hk) cc.gd) fun W' pn xe p1 p2 tk => ?_).r, φ, _, _, S, nw.sg, slots_start repV _, ?_⟩
    · exact de_act I1 L ob hn hfr bnd tk room (fun A outer s H E gA rm => rd A outer s H E f c' (cc_lam cc.nd (rm.mono hk') (gA.trans cc.gd))) (fun φ F H n v ⟨h1, _, h3, h4⟩ => ⟨h1, h3, h4⟩) h0 vis d1 d2
    · rw [gwb] at post1
      have p1 : Post τ X.K X.mg (fun c d H2 => W c d σ H2) S.length φ (fun a => F a ∨ a = c') H1 Q (fnOf N.length (b (eAct p0 (fb ρ))) [.lam p0] S) := post1
      unfold fnOf at p1
      cases e : b (eAct p0 (fb ρ)) ([Vl.lam p0].map some ++ List.replicate (N.length - [Vl.lam p0].length) none) S with
      | nx ρ1 S1 => rw [e] at p1; exact fun φ1 F1 H1 nw1 σ1 sl1 => p1 _ _ _ nw1.cut .non .non
      | ret v S1 => rw [e] at p1; exact fun φ1 F1 H1 nw1 x rx => leave_ok nw.sg nw1 rx p1
      | ex x ρ1 S1 => rw [e] at p1; exact fun φ1 F1 H1 nw1 c od rx σ1 sl1 => p1 _ _ _ nw1.cut c od rx
      | bk ρ1 S1 => rw [e] at p1; exact (show False from p1).elim
      | ct ρ1 S1 => rw [e] at p1; exact (show False from p1).elim
      | bad => rw [e] at p1; exact p1
  refine wpAny_call (codeAny_mono run fun r s2 done => ?_)
  cases r with
  | error e => exact cc.tk e s2 (XE.of_call I1 (fun _ _ _ z => z) done)
  | ok fl =>
    cases fl with
    | ret u => exact I1.after done
    | next => exact done.elim
    | brk => exact done.elim
    | cont => exact done.elim
section
variable {P : Program} {w : World} {K : PySem.W.Frag} {mg mb : Str → Option Value} {cs : List (Addr × Addr)}
theorem head_at {h : Heap} {H : Hp} {c Pa : Addr} (C : PySem.W.CodeHd h c Pa) (free : ∀ o, h.get? c = some o → (∃ vs, o.data = .fields vs ∧ vs ≠ #[]) → H c = none) : PySem.W.CodeHd (hidT h H) c Pa := by
  obtain ⟨o, us, z1, z2, z3, z4, z5, z6, z7, e1, e2, e3, e4, e5⟩ := C
  refine ⟨o, us, z1, z2, z3, z4, z5, z6, z7, hidT_get e1 (free o e1 ⟨us, e3, fun z => ?_⟩), e2, e3, e4, e5⟩
  rw [z] at e4
  simp at e4
theorem law_atT {k : Nat} {fa a : Addr} {fd : FuncData} {x : Str} {sp : Sp} {s : Shared} {vs : List Value} {H : Hp} (inK : K.In s.heap) (ns : s.heap.Ns mainGlobals mg) (nb : s.heap.Ns builtinsNs mb) (bb : ∀ x : Str, x ≠ "__name__" → mb x = bootBuiltins x)
    (lim : s.heap.NoLimit) (gn : s.gens = #[]) (at_ : s.heap.get? a = some { cls := .type "list", data := .seq vs.toArray }) (room : Room k callerA)
    (bm : ∃ (bm : Addr) (ob : Obj), mg "__builtins__" = some (.ref bm) ∧ bm ≠ builtinsNs ∧ s.heap.get? bm = some ob ∧ ob.cls = .type "module" ∧ ob.dict = some builtinsNs ∧ ob.data = .plain)
    (tabs : ∀ p ∈ cs, PySem.W.CodeHd s.heap p.1 p.2 ∧ s.heap.get? p.2 = some (PySem.W.tabObj #[])) (noK : ∀ p ∈ cs, K.lookup p.2 = none)
    (F : ∀ base : Heap, K.In base → base.Ns mainGlobals mg → (∀ p ∈ cs, LamX.TabB base mg p.1 p.2) → Fk P w K mg base k fa fd [x] sp) (bind : ∀ (s : Shared) (u : Value), BindsTo s fd ⟨[u], []⟩ [(x, u)])
    (hok : HOk P w H s.heap) (only : ∀ b, H b ≠ none → b = a ∨ ∃ p ∈ cs, p.2 = b) (inH : ∀ p ∈ cs, H p.2 = some (.tbl #[])) (fz : H a ≠ none → K.lookup a = none ∧ ∃ u, H a = some (.frz { cls := .type "list", data := .seq vs.toArray } u)) (prom : sp [.ref a] H (fun v _ => v = .bl true) fun _ _ _ => False) :
    codeAny (model P w) callerA (.call (.ref fa) ⟨[.ref a], []⟩) (fun r s' => r = .ok (.ret (.bool true)) ∧ OldK s.heap s'.heap ∧ s'.os = s.os ∧ AllBare s'.gens) s := by
  have untracked : ∀ {b : Addr} {o : Obj}, s.heap.get? b = some o → (∀ vs n, o.data ≠ .seq vs n) → o.data ≠ .fields #[] → H b = none := fun {b o} e n1 n2 => by
    cases q : H b with
    | none => rfl
    | some u =>
      rcases only b (by rw [q]; simp) with z | ⟨p, hp, z⟩
      · subst z
        rw [at_] at e
        cases e
        exact absurd rfl (n1 _ _)
      · subst z
        rw [(tabs p hp).2] at e
        cases e
        exact absurd rfl n2
  have dicts : ∀ {b : Addr} {o : Obj} {es : Array DictEntry} {ep : Nat}, s.heap.get? b = some o → o.data = .dict es ep → H b = none := fun {b o es ep} e d => untracked e (fun vs n z => by rw [d] at z; cases z) (fun z => by rw [d] at z; cases z)
  have kFree : ∀ b o, K.lookup b = some o → H b = none := fun b o e => by
    cases q : H b with
    | none => rfl
    | some u =>
      rcases only b (by rw [q]; simp) with z | ⟨p, hp, z⟩
      · subst z
        rw [(fz (by rw [q]; simp)).1] at e; cases e
      · subst z
        rw [noK p hp] at e; cases e
  have nsUp : ∀ {b : Addr} {m : Str → Option Value}, s.heap.Ns b m → (hidT s.heap H).Ns b m := fun {b m} ⟨o, es, ep, e, d, r⟩ => ⟨o, es, ep, hidT_get e (dicts e d), d, r⟩
  have kBase : K.In (hidT s.heap H) := fun b o e => hidT_get (inK b o e) (kFree b o e)
  have md : Mod K mg (hidT s.heap H) := ⟨kBase, nsUp ns, ⟨mb, nsUp nb, bb⟩, lim.imp fun _ z => ⟨nsUp z.1, z.2⟩⟩
  have env : Env0 P w K mg (hidT s.heap H) callerA [] s H := ⟨rfl, md, fun b o e => of_hidT e, Nat.le_of_eq (hidT_size _ _), trivial, fun b hb => absurd (show b ∈ ([] : List Addr) from hb) (by simp), hok, .of_eq gn⟩
  have dictOf : ∀ {b : Addr} {m : Str → Option Value} {o : Obj}, s.heap.Ns b m → s.heap.get? b = some o → ∃ es ep, o.data = .dict es ep := fun {b m o} ⟨o2, es, ep, e, d, _⟩ e2 => by
    rw [e] at e2
    cases e2
    exact ⟨es, ep, d⟩
  have tb : ∀ p ∈ cs, LamX.TabB (hidT s.heap H) mg p.1 p.2 := fun p hp => by
    obtain ⟨C, obP⟩ := tabs p hp
    refine ⟨head_at C fun o e ⟨us, d, ne⟩ => untracked e (fun vs n z => by rw [d] at z; cases z) (fun z => by rw [d] at z; exact ne (Data.fields.inj z)), ?_, fun z => ?_⟩
    · obtain ⟨m, o, m1, m2, m3, m4, m5, m6⟩ := bm
      refine ⟨m, o, m1, m2, fun z => ?_, fun z => ?_, hidT_get m3 (untracked m3 (fun vs n z => by rw [m6] at z; cases z) (fun z => by rw [m6] at z; cases z)), m4, m5, m6⟩
      · subst z
        obtain ⟨es, ep, d⟩ := dictOf ns m3
        rw [m6] at d; cases d
      · subst z
        rw [obP] at m3
        cases m3
        cases m6
    · rw [← z] at obP
      obtain ⟨es, ep, d⟩ := dictOf ns obP
      cases d
  refine codeAny_mono ((F _ kBase (nsUp ns) tb).go callerA [] s H ⟨[.ref a], []⟩ [.ref a] [.ref a] _ _ room rfl env (bind s (.ref a)) (.cons rfl .nil) prom) fun r s2 done => ?_
  cases r with
  | error e =>
    obtain ⟨_, _, _, _, _, _, _, _, _, _, _, _, z⟩ := (show L2.CX P w [] H s (fun _ _ _ => False) e s2 from done)
    exact z.elim
  | ok fl =>
    cases fl with
    | next => exact (show False from done).elim
    | brk => exact (show False from done).elim
    | cont => exact (show False from done).elim
    | ret u =>
      obtain ⟨v, H2, os2, bare2, un, hok2, rv, qv⟩ := (show CE [] P w H s _ u s2 from done)
      have ev : v = .bl true := qv
      subst ev
      obtain rfl : u = Value.bool true := rv
      have tabs2 : ∀ p ∈ cs, ∃ more : Array Value, s2.heap.get? p.2 = some (PySem.W.tabObj more) := fun p hp => by
        obtain ⟨more, z⟩ := un.tbls p.2 #[] (inH p hp)
        exact ⟨_, hok2 p.2 _ z⟩
      have others : ∀ b o, (∀ p ∈ cs, p.2 ≠ b) → s.heap.get? b = some o → s2.heap.get? b = some o := fun b o nt e => by
        cases q : H b with
        | none => exact un.keep b o e q (by intro z; exact absurd (show b ∈ ([] : List Addr) from z) (by simp)) (by simp)
        | some u =>
          rcases only b (by rw [q]; simp) with z | ⟨p, hp, z⟩
          · subst z
            obtain ⟨_, u2, e3⟩ := fz (by rw [q]; simp)
            have e4 := (hok2 b _ (un.frzs b _ u2 e3)).1
            rw [at_] at e
            cases e
            exact e4
          · exact absurd z (nt p hp)
      refine ⟨rfl, ⟨fun b o e => ?_, fun b o e => ?_⟩, os2, bare2⟩
      · by_cases z : ∃ p ∈ cs, p.2 = b
        · obtain ⟨p, hp, rfl⟩ := z
          obtain ⟨C, obP⟩ := tabs p hp
          obtain ⟨more, e2⟩ := tabs2 p hp
          rw [obP] at e
          cases e
          refine .inr (.inl ⟨(C.tab obP).isCodeTable, rfl, #[], more, rfl, ?_⟩)
          rw [Array.empty_append]
          exact e2
        · exact .inl (others b o (fun p hp y => z ⟨p, hp, y⟩) e)
      · by_cases z : ∃ p ∈ cs, p.2 = b
        · obtain ⟨p, hp, rfl⟩ := z
          obtain ⟨more, e2⟩ := tabs2 p hp
          exact ⟨_, e2⟩
        · exact ⟨o, others b o (fun p hp y => z ⟨p, hp, y⟩) e⟩
end
abbrev tauOf (cq : List ((Addr × Addr) × Str)) : Tb := cq.map fun p => (p.1.2, p.2)
noncomputable def startH (cq : List ((Addr × Addr) × Str)) (a : Addr) (sc : Option HO) : Hp := fun b => open Classical in if b = a ∧ sc ≠ none then sc else if ∃ p ∈ cq, p.1.2 = b then some (.tbl #[]) else none
theorem startH_a {cq : List ((Addr × Addr) × Str)} {a : Addr} {u : HO} : startH cq a (some u) a = some u := if_pos ⟨rfl, by simp⟩
theorem startH_t {cq : List ((Addr × Addr) × Str)} {a b : Addr} {sc : Option HO} (h : b ≠ a ∨ sc = none) (hb : ∃ p ∈ cq, p.1.2 = b) : startH cq a sc b = some (.tbl #[]) := by
  unfold startH
  rw [if_neg (fun z => h.elim (fun y => y z.1) (fun y => z.2 y)), if_pos hb]
theorem startH_n {cq : List ((Addr × Addr) × Str)} {a b : Addr} {sc : Option HO} (h : b ≠ a ∨ sc = none) (hb : ¬ ∃ p ∈ cq, p.1.2 = b) : startH cq a sc b = none := by
  unfold startH
  rw [if_neg (fun z => h.elim (fun y => y z.1) (fun y => z.2 y)), if_neg hb]
theorem walk_fkT {l : PySem.W.OpenLaw} {n k : Nat} {q : Program} {loose : List Str} {XP : (Str → Option Value) → Heap → Prop} {YP : World → Heap → Prop} {d : DefRec} {K : Params → PySem.W.Frag} {x : Str} {g : Fn}
    (hn : l.most = some n) (hn2 : n ≤ sizeLine) (noDef : d.params.defaults = []) (room : Room k callerA) (hY : ∀ (w : World) (h : Heap), YP w h → (K w.params).In h)
    (F : ∀ (w : World) (mg : Str → Option Value) (fa : Addr) (h : Heap), (K w.params).In h → h.Ns mainGlobals mg → mg d.name = some (.ref fa) →
        (∀ (y : Str) (e : DefRec) (c P : Addr), (recsOf q).find? (fun e => e.name == y) = some e → PySem.W.tabIn (K w.params) y = some (c, P) → PySem.W.CodeHd h c P ∧ h.get? P = some (PySem.W.tabObj #[])) →
        ∃ (fd : FuncData) (cq : List ((Addr × Addr) × Str)), (∀ p ∈ cq, PySem.W.CodeHd h p.1.1 p.1.2 ∧ h.get? p.1.2 = some (PySem.W.tabObj #[])) ∧ (∀ p ∈ cq, (K w.params).lookup p.1.2 = none) ∧ (∀ (s : Shared) (u : Value), BindsTo s fd ⟨[u], []⟩ [(x, u)]) ∧
          ∀ base : Heap, (K w.params).In base → base.Ns mainGlobals mg → (∀ p ∈ cq, LamX.TabB base mg p.1.1 p.1.2) → Fk l.prog w (K w.params) mg base k fa fd [x] (spN (tauOf cq) (K w.params) mg 1 g))
    (law : ∀ ns : List Int, ns.length ≤ n → ∃ S, g [.scr ns] [] = .ok (.d (.bool true)) S) : PySem.W.WalkO q loose XP YP l.row.toRowW d [] (fun f vs => PySem.call f vs) := by
  refine Att.attach_call hn noDef fun w s₀ s₁ mg mb fa o pm cd doc a vs ns G Y ho hd hcd hmg hobj hints hlen hg => ?_
  have inK := hY w _ Y
  obtain ⟨fd, cq, tabs, noK, bind, hF⟩ := F w mg fa _ inK G.T.g hmg (fun y e c P h1 h2 => PySem.W.tab_of G.T inK h1 h2)
  obtain ⟨S, e⟩ := law ns hlen
  have rv := vals_ints hints
  have aT : ∀ p ∈ cq, p.1.2 ≠ a := fun p hp z => by
    have := (tabs p hp).2
    rw [z, hobj] at this
    cases this
  have at_ := fun {H : Hp} => law_atT (cs := cq.map (·.1)) (H := H) inK G.T.g G.T.b G.T.builtins G.T.nolimit hg hobj room G.T.bmain
    (fun p hp => by obtain ⟨q, hq, rfl⟩ := List.mem_map.mp hp; exact tabs q hq) (fun p hp => by obtain ⟨q, hq, rfl⟩ := List.mem_map.mp hp; exact noK q hq) (fun base h1 h2 h3 => hF base h1 h2 fun p hp => h3 _ (List.mem_map.mpr ⟨p, hp, rfl⟩)) bind
  have fin : ∀ {H : Hp} {F : Addr → Prop}, SG (tauOf cq) (K w.params) (fun _ => 0) F H [] → RepV (K w.params) mg (fun _ => 0) F H 0 (.ref a) (.scr ns) → spN (tauOf cq) (K w.params) mg 1 g [.ref a] H (fun v _ => v = .bl true) fun _ _ _ => False := fun {H F} sg r =>
    ⟨rfl, fun _ => 0, F, [.scr ns], [], sg, ⟨r, trivial⟩, by
      rw [e]
      intro φ' F' H' _ v r
      cases r
      rfl⟩
  have none_or : ∀ (sc : Option HO) b u, startH cq a sc b = some u → (b = a ∧ sc = some u) ∨ ((∃ p ∈ cq, p.1.2 = b) ∧ u = .tbl #[]) := fun sc b u z => by
    by_cases h1 : b = a ∧ sc ≠ none
    · unfold startH at z
      rw [if_pos h1] at z
      exact .inl ⟨h1.1, z⟩
    · have h1 : b ≠ a ∨ sc = none := by
        by_cases y : b = a
        · exact .inr (Classical.byContradiction fun w => h1 ⟨y, w⟩)
        · exact .inl y
      by_cases h2 : ∃ p ∈ cq, p.1.2 = b
      · rw [startH_t h1 h2] at z
        exact .inr ⟨h2, (Option.some.inj z).symm⟩
      · rw [startH_n h1 h2] at z; cases z
  have onlyOf : ∀ (sc : Option HO) b, startH cq a sc b ≠ none → b = a ∨ ∃ p ∈ cq.map (·.1), p.2 = b := fun sc b z => by
    cases y : startH cq a sc b with
    | none => exact absurd y z
    | some u =>
      rcases none_or sc b u y with h | ⟨⟨p, hp, h⟩, _⟩
      · exact .inl h.1
      · exact .inr ⟨_, List.mem_map.mpr ⟨p, hp, rfl⟩, h⟩
  have inOf : ∀ (sc : Option HO), ∀ p ∈ cq.map (·.1), startH cq a sc p.2 = some (.tbl #[]) := fun sc p hp => by
    obtain ⟨p0, hp0, rfl⟩ := List.mem_map.mp hp
    exact startH_t (.inl (aT p0 hp0)) ⟨p0, hp0, rfl⟩
  have tabOk : ∀ b, (∃ p ∈ cq, p.1.2 = b) → s₁.heap.get? b = some (PySem.W.tabObj #[]) := fun b ⟨p, hp, z⟩ => z ▸ (tabs p hp).2
  -- the start: what is tracked
  have sgOf : ∀ (sc : Option HO) (F : Addr → Prop), (∀ b, F b → b = a ∧ sc ≠ none) → (∀ u, sc = some u → Plain0 u) → SG (tauOf cq) (K w.params) (fun _ => 0) F (startH cq a sc) [] := fun sc F hF hp => by
    refine ⟨fun b hb => ?_, fun i o z => by simp at z, fun i j z => by simp at z, fun p hp => ?_, fun p hp z => ?_, fun b ps z => ?_, fun b c q z => ?_⟩
    · obtain ⟨rfl, h2⟩ := hF b hb
      cases sc with
      | none => exact absurd rfl h2
      | some u => rw [startH_a]; simp
    · obtain ⟨p0, hp0, rfl⟩ := List.mem_map.mp hp
      exact LamX.TabS.nil (startH_t (.inl (aT p0 hp0)) ⟨p0, hp0, rfl⟩)
    · obtain ⟨p0, hp0, rfl⟩ := List.mem_map.mp hp
      exact aT p0 hp0 (hF _ z).1
    · rcases none_or sc b _ z with ⟨_, h⟩ | ⟨⟨p, hp, h⟩, _⟩
      · exact absurd rfl ((hp _ h).1 ps)
      · exact ⟨_, List.mem_map.mpr ⟨p, hp, rfl⟩, h⟩
    · rcases none_or sc b _ z with ⟨_, h⟩ | ⟨_, h⟩
      · exact absurd rfl ((hp _ h).2 c q)
      · exact absurd h (LamX.codeO_ne _)
  cases hk : (K w.params).lookup a with
  | some ob =>
    have e1 := inK a ob hk
    rw [hobj] at e1
    cases e1
    refine at_ (H := startH cq a none) (fun b u z => ?_) (onlyOf none) (inOf none) (fun z => ?_) (fin (F := fun _ => False) (sgOf none _ (fun _ z => z.elim) (fun _ z => by cases z)) ⟨a, rfl, .inr ⟨_, vs.toArray, _, hk, rfl, rfl, rfl, ?_, by simpa using rv⟩⟩)
    · rcases none_or none b u z with ⟨_, h⟩ | ⟨h, rfl⟩
      · cases h
      · exact tabOk b h
    · have none : startH cq a none a = none := startH_n (.inr rfl) (fun ⟨p, hp, y⟩ => aT p hp y)
      exact absurd none z
    · rw [List.size_toArray, hints.length]
      exact Nat.le_trans hlen hn2
  | none =>
    refine at_ (H := startH cq a (some (.frz { cls := .type "list", data := .seq vs.toArray } (.lst (ns.map V.int))))) (fun b u z => ?_) (onlyOf _) (inOf _) (fun z => ⟨hk, _, startH_a⟩)
      (fin (F := fun b => b = a) (sgOf _ _ (fun _ z => ⟨z, by simp⟩) (fun u z => by cases z; exact ⟨fun _ y => (by cases y), fun _ _ y => (by unfold LamX.CodeO at y; cases y)⟩)) ⟨a, rfl, .inl ⟨rfl, _, startH_a⟩⟩)
    rcases none_or _ b u z with ⟨rfl, h⟩ | ⟨h, rfl⟩
    · cases h
      exact ⟨hobj, by rw [List.length_map]; exact Nat.le_trans hlen hn2, vs, _, rv, hobj⟩
    · exact tabOk b h
def eCallV (i : Nat) (t : Str → Option (Nat × Fn)) (fs : Av) : Ev := fun ρ S => match ρ[i]? with
  | some (some (Vl.glo x)) => match t x with
    | some (n, g) => eCallN n g fs ρ S
    | none => .bad
  | _ => .bad
@[simp] theorem ap_eCallV {i : Nat} {t : Str → Option (Nat × Fn)} {fs : Av} {ρ : Env} {S : Store} : eCallV i t fs ρ S = match ρ[i]? with
  | some (some (Vl.glo x)) => match t x with
    | some (n, g) => eCallN n g fs ρ S
    | none => .bad
  | _ => .bad := rfl
theorem rel_ref {v : V} {f : Addr} (h : RelV v (.ref f)) : v = .ref f := by
  cases v with
  | ref a => cases (show Value.ref f = Value.ref a from h); rfl
  | non => cases (show Value.ref f = Value.none from h)
  | bl b => cases (show Value.ref f = Value.bool b from h)
  | ty n => cases (show Value.ref f = Value.type n from h)
  | int i => obtain ⟨_, z⟩ := h; cases z
  | str i => obtain ⟨_, z⟩ := h; cases z
  | byt i => obtain ⟨_, z⟩ := h; cases z
  | flt i => obtain ⟨_, z⟩ := h; cases z
theorem de_callV {X : Cx} {W : WX} {j i : Nat} {a : Str} {t : Str → Option (Nat × Fn)} {fs : Av} {e : Expr} {es : List Expr} {p pos : Pos} (cc : Cc X W j) (ht : ∀ x n g, t x = some (n, g) → ∃ k, k ≤ j ∧ DefOk τ X.prog X.w X.K X.mg X.base k n x g) (hN : X.N[i]? = some a) (ha : DA τ X W (e :: es) fs)
    (hv : Vis X.env.scope a := by first | exact Or.inl rfl | exact Or.inr (Or.inl rfl) | exact Or.inr (Or.inr rfl)) (hd : (a == ("__debug__" : Str)) = false := by decide) (hcd : (a == ("__classdict__" : Str)) = false := by decide)
    (h1 : starEach (e :: es) X.env = (false, eval e X.env) :: starEach es X.env := by rfl) (h2 : (backTo pos (starEach es X.env)).any (·.1) = false := by rfl) : DE τ X W (.Call (.Name a p) (e :: es) [] pos) (eCallV i t fs) := by
  refine ⟨⟨fun pins s σ H Q I ⟨φ, F, ρ, S, sg, sl, post⟩ => ?_⟩⟩
  unfold eCallV at post
  split at post
  case h_2 => exact post.elim
  rename_i x at0
  split at post
  case h_2 => exact post.elim
  rename_i n g tx
  obtain ⟨k, kj, ok⟩ := ht x n g tx
  obtain ⟨f, fd, ps, G, there, keep, bi⟩ := ok.ex
  obtain ⟨v, hσ, u0, mu, rv⟩ := sl.2 i _ at0
  rw [there] at mu
  cases mu
  obtain rfl := rel_ref rv
  refine wpAny_Call_Name_kw (thn ((pe_var (pos := p) (i := i) hN hv hd hcd).run pins s σ H (fun v H1 => v = .ref f ∧ H1 = H) I ⟨_, hσ, rfl, rfl⟩) fun u s1 ⟨v, H1, I1, r1, ev, eH⟩ => ?_)
  subst ev eH
  obtain rfl : u = Value.ref f := r1
  have post : PostG τ X.K X.mg (RepV X.K X.mg) (fun c od H' => W c od σ H') S.length φ F H1 Q ((fs ρ S).bind fun vs S1 => if vs.length = n then g vs S1 else .bad) := post
  have args : RA τ X.K X.mg W fs σ H1 fun vs H2 => spN τ X.K X.mg n g vs H2 Q fun c d H3 => W c d σ H3 := ⟨φ, F, ρ, S, sg, sl, PostG.bind sg post fun φ1 F1 H2 S1 vs xs nw1 r1 p1 => by
    by_cases hl : vs.length = n
    · rw [if_pos hl] at p1
      exact ⟨r1.len.trans hl, φ1, F1, vs, S1, nw1.sg, r1, p1⟩
    · rw [if_neg hl] at p1; exact p1.elim⟩
  exact PySem.W.callWith_K (h₀ := X.base) I1.ok.mod.kin keep (thn (ha.r.run pos pins s1 σ H1 _ I1 args) fun us s2 ⟨vs, H2, J2, r, q⟩ => ⟨J2.kIn, run_fk G (cc.rm.mono kj) cc.gd bi cc.tk J2 r q⟩) h1 h2
def glosOf : List Vl → Option (List Str)
  | [] => some []
  | .glo x :: vs => (glosOf vs).map fun xs => x :: xs
  | _ => none
def eGlos (f : Av) : Ev := fun ρ S => (f ρ S).bind fun vs S1 => match glosOf vs with
  | some xs => if xs.length ≤ 1000 then .ok (.glos xs) S1 else .bad
  | none => .bad
@[simp] theorem ap_eGlos {f : Av} {ρ : Env} {S : Store} : eGlos f ρ S = (f ρ S).bind fun vs S1 => match glosOf vs with
  | some xs => if xs.length ≤ 1000 then .ok (.glos xs) S1 else .bad
  | none => .bad := rfl
theorem glos_of {K : PySem.W.Frag} {mg : Str → Option Value} {φ : Nat → Addr} {F : Addr → Prop} {H : Hp} {n : Nat} : ∀ {vs : List V} {ws : List Vl} {xs : List Str}, RepVs K mg φ F H n vs ws → glosOf ws = some xs → RepG mg vs xs ∧ vs.length = xs.length
  | [], [], xs, _, h => by cases h; exact ⟨trivial, rfl⟩
  | v :: vs, w :: ws, xs, r, h => by
    cases w with
    | glo x =>
      simp only [glosOf, Option.map_eq_some_iff] at h
      obtain ⟨ys, h1, rfl⟩ := h
      obtain ⟨a, b⟩ := glos_of r.2 h1
      exact ⟨⟨r.1, a⟩, by simp [b]⟩
    | _ => simp [glosOf] at h
  | [], _ :: _, _, r, _ => r.elim
  | _ :: _, [], _, r, _ => r.elim
theorem de_glos {X : Cx} {W : WX} {es : List Expr} {fs : Av} {kk : Nat} {pos : Pos} (h : DA τ X W es fs) : DE τ X W (.Tuple es kk pos) (eGlos fs) := ⟨PE.mono (pe_tup h.r) fun σ H Q ⟨φ, F, ρ, S, g, sl, p⟩ => ⟨φ, F, ρ, S, g, sl, PostG.bind g p fun φ1 F1 H1 S1 vs xs nw1 r1 p1 => by
  split at p1
  · rename_i ys q
    by_cases hl : ys.length ≤ 1000
    · rw [if_pos hl] at p1
      obtain ⟨a, b⟩ := glos_of r1 q
      refine ⟨by rw [b]; exact line1000 hl, fun t ht => ?_⟩
      have nw2 := nw1.sg.fresh (o := .tup xs) ht
      exact PostG.start nw1.sg nw2 p1 _ _ _ (.refl nw2.sg) _ ⟨t, xs, rfl, .inr rfl, upd_same, a⟩
    · rw [if_neg hl] at p1; exact p1.elim
  · exact p1.elim⟩⟩
theorem RepG.get {mg : Str → Option Value} : ∀ {vs : List V} {xs : List Str} {i : Nat} {x : Str}, RepG mg vs xs → xs[i]? = some x → ∃ v, vs[i]? = some v ∧ ∃ u, mg x = some u ∧ RelV v u
  | _ :: _, _ :: _, 0, _, h, e => by cases e; exact ⟨_, rfl, h.1⟩
  | _ :: _, _ :: _, i + 1, x, h, e => RepG.get (i := i) h.2 (by simpa using e)
  | [], _ :: _, _, _, h, _ => h.elim
  | [], [], _, _, _, e => by simp at e
  | _ :: _, [], _, _, _, e => by simp at e
theorem RepG.len {mg : Str → Option Value} : ∀ {vs : List V} {xs : List Str}, RepG mg vs xs → vs.length = xs.length
  | [], [], _ => rfl
  | _ :: _, _ :: _, h => by simp [RepG.len h.2]
  | [], _ :: _, h => h.elim
  | _ :: _, [], h => h.elim
def forG (g : Tg) (b : Sv) : List Str → Env → Store → SRes
  | [], ρ, S => .nx ρ S
  | x :: xs, ρ, S => match g (.glo x) ρ with
    | none => .bad
    | some ρ1 => match b ρ1 S with
      | .nx ρ2 S2 => forG g b xs ρ2 S2
      | .ct ρ2 S2 => forG g b xs ρ2 S2
      | .bk ρ2 S2 => .nx ρ2 S2
      | r => r
def sForG (f : Ev) (g : Tg) (b : Sv) : Sv := fun ρ S => (f ρ S).st ρ fun v S1 => match v with
  | .glos xs => forG g b xs ρ S1
  | _ => .bad
@[simp] theorem ap_sForG {f : Ev} {g : Tg} {b : Sv} {ρ : Env} {S : Store} : sForG f g b ρ S = (f ρ S).st ρ fun v S1 => match v with
  | .glos xs => forG g b xs ρ S1
  | _ => .bad := rfl
theorem ds_forG {X : Cx} {W : WX} {j : Nat} {tg it : Expr} {body : List Stmt} {pos : Pos} {f : Ev} {g : Tg} {ws : List Nat} {sb : Sv} (cc : Cc X W j) (h : DE τ X W it f) (hg : DG τ X tg g ws) (hb : DB τ X W body sb) (hs : ∀ x, foldedSetIterable it X.env x = pure x := by intro _; rfl) : DS τ X W (.For tg it body [] pos) (sForG f g sb) :=
  ⟨PS.mono (ps_for cc.po cc.calm (pi_seq h.r) hg.r hb.r hs) fun E σ H ⟨φ, F, ρ, S, gs, sl, p⟩ => ⟨φ, F, ρ, S, gs, sl, PostS.st (R := RepV X.K X.mg) gs sl p fun φ1 F1 H1 S1 v x nw1 r1 p1 => by
    cases v <;> first | exact p1.elim | skip
    rename_i xs
    obtain ⟨a, vs, rfl, fa, ha, rg⟩ := r1
    have p1 : PostS τ X.K X.mg W S1.length φ1 F1 H1 E (forG g sb xs ρ S1) := p1
    have at_ : ∀ {H2 : Hp}, Agree F1 H1 H2 → SqT X.K H2 a vs := fun ag => .inl (.inl ((ag a fa).trans ha))
    refine ⟨a, rfl, .inr ⟨⟨vs, at_ (fun _ _ => rfl)⟩, ?_⟩⟩
    have wk : Walk (Itt X.K a) xs.length (Agree F1 H1) (fun i H' v H'' => H'' = H' ∧ ∃ x, xs[i]? = some x ∧ ∃ u, X.mg x = some u ∧ RelV v u) := by
      refine ⟨fun i H2 hi ag => ?_, fun H2 ag => ⟨vs, at_ ag, by rw [rg.len]; exact Nat.le_refl _⟩, fun i H2 v H3 hi ag y => ?_⟩
      · obtain ⟨v, hv, _⟩ := rg.get (List.getElem?_eq_getElem hi)
        exact ⟨vs, v, at_ ag, hv⟩
      · obtain ⟨v', hv, ru⟩ := rg.get (List.getElem?_eq_getElem hi)
        have e := y.2 vs (at_ ag)
        rw [hv] at e
        cases e
        exact ⟨y.1, xs[i], List.getElem?_eq_getElem hi, ru⟩
    refine for_it wk (fun i σ2 H2 => ∃ φ2 F2 ρ2 S2, Now τ X.K S1.length φ1 F1 H1 φ2 F2 H2 S2 ∧ Slots X.K X.mg φ2 F2 H2 S2.length σ2 ρ2 ∧ PostS τ X.K X.mg W S2.length φ2 F2 H2 E (forG g sb (xs.drop i) ρ2 S2)) ⟨φ1, F1, ρ, S1, .refl nw1.sg, sl.now nw1, p1⟩ (fun i σ2 H2 _ ⟨_, _, _, _, n, _⟩ b hb => n.ext.same b hb) ?_ ?_
    · intro i v σ2 H2 H3 hlt ⟨φ2, F2, ρ2, S2, nw2, sl2, p2⟩ ⟨eH, x, hx, ru⟩
      subst eH
      have hdr : xs.drop i = x :: xs.drop (i + 1) := by
        obtain ⟨h1, h2⟩ := List.getElem?_eq_some_iff.mp hx
        rw [← h2, List.drop_eq_getElem_cons h1]
      rw [hdr] at p2
      refine ⟨φ2, F2, ρ2, S2, .glo x, nw2.sg, sl2, ru, ?_⟩
      unfold forG at p2
      cases q : g (.glo x) ρ2 with
      | none => rw [q] at p2; exact p2.elim
      | some ρ3 =>
        simp only [q] at p2 ⊢
        refine fun σ3 sl4 _ => ⟨φ2, F2, ρ3, S2, nw2.sg, sl4, ?_⟩
        cases e : sb ρ3 S2 with
        | nx ρ4 S4 =>
          simp only [e] at p2
          exact fun φ5 F5 H5 nw5 σ5 sl5 => ⟨φ5, F5, ρ4, S4, Now.trans nw1.sg nw2 nw5, sl5, PostS.start nw2.sg nw5 p2⟩
        | ct ρ4 S4 =>
          simp only [e] at p2
          exact fun φ5 F5 H5 nw5 σ5 sl5 => ⟨φ5, F5, ρ4, S4, Now.trans nw1.sg nw2 nw5, sl5, PostS.start nw2.sg nw5 p2⟩
        | bk ρ4 S4 => simp only [e] at p2; exact p2
        | ret v4 S4 => simp only [e] at p2; exact p2
        | ex x4 ρ4 S4 => simp only [e] at p2; exact p2
        | bad => simp only [e] at p2; exact p2
    · intro σ2 H2 ⟨φ2, F2, ρ2, S2, nw2, sl2, p2⟩
      rw [List.drop_length] at p2
      exact PostS.nx nw2.sg sl2 p2⟩⟩
structure TryF (K : PySem.W.Frag) (mg : Str → Option Value) (c : Str) (sub : Str → Option Bool) : Prop where
  ex : ∃ C : Addr, mg c = some (.ref C) ∧ ∀ (y : Str) (cls : Value) (b : Bool), mg y = some cls → sub y = some b → PySem.W.exmOne K cls (.ref C) = some b
theorem TryF.mk' {K : PySem.W.Frag} {mg : Str → Option Value} {c : Str} {h : Heap} {C : Addr} (X : K.In h) (G : h.Ns mainGlobals mg) (l : List (Str × Bool)) (a : PySem.W.nsIn K mainGlobals c = some (some (.ref C)))
    (all : ∀ p ∈ l, ∃ D : Addr, PySem.W.nsIn K mainGlobals p.1 = some (some (.ref D)) ∧ PySem.W.exmOne K (.ref D) (.ref C) = some p.2) : TryF K mg c (fun y => l.lookup y) := ⟨C, PySem.W.mg_of X G a, fun y cls b hy hb => by
  obtain ⟨D, h1, h2⟩ := all (y, b) (PySem.mem_of_lookup hb)
  rw [PySem.W.mg_of X G h1] at hy
  cases hy
  exact h2⟩
structure IsF (K : PySem.W.Frag) (mg : Str → Option Value) (c : Str) (kit : Str → Option Bool) : Prop where
  ex : ∃ (cv : Value) (c0 : V), (∀ u, RelV c0 u → u = cv) ∧ (∀ (X : Cx) (p : Pos), X.mg = mg → Gl X c → PE X (.Name c p) (tC c0)) ∧ ∀ (y : Str) (cls : Value) (b : Bool), mg y = some cls → kit y = some b → ∃ D : Addr, cls = .ref D ∧ PySem.W.kitOne K cls cv = some b ∧ ExcC K D
theorem isF_all {K : PySem.W.Frag} {mg : Str → Option Value} {h : Heap} {cv : Value} (X : K.In h) (G : h.Ns mainGlobals mg) (l : List (Str × Bool)) (all : ∀ p ∈ l, ∃ D : Addr, PySem.W.nsIn K mainGlobals p.1 = some (some (.ref D)) ∧ PySem.W.kitOne K (.ref D) cv = some p.2 ∧ ExcC K D) :
    ∀ (y : Str) (cls : Value) (b : Bool), mg y = some cls → l.lookup y = some b → ∃ D : Addr, cls = .ref D ∧ PySem.W.kitOne K cls cv = some b ∧ ExcC K D := fun y cls b hy hb => by
  obtain ⟨D, h1, h2, h3⟩ := all (y, b) (PySem.mem_of_lookup hb)
  rw [PySem.W.mg_of X G h1] at hy
  cases hy
  exact ⟨D, rfl, h2, h3⟩
theorem IsF.cls' {K : PySem.W.Frag} {mg : Str → Option Value} {c : Str} {h : Heap} {C : Addr} (X : K.In h) (G : h.Ns mainGlobals mg) (hd : (c == ("__debug__" : Str)) = false) (l : List (Str × Bool)) (a : PySem.W.nsIn K mainGlobals c = some (some (.ref C)))
    (all : ∀ p ∈ l, ∃ D : Addr, PySem.W.nsIn K mainGlobals p.1 = some (some (.ref D)) ∧ PySem.W.kitOne K (.ref D) (.ref C) = some p.2 ∧ ExcC K D) : IsF K mg c (fun y => l.lookup y) :=
  ⟨.ref C, .ref C, fun u h => h, fun Y p e hg => pe_glob hg (by rw [e]; exact PySem.W.mg_of X G a) rfl hd, isF_all X G l all⟩
theorem IsF.blt' {K : PySem.W.Frag} {mg : Str → Option Value} {c : Str} {h : Heap} {T : String} (X : K.In h) (G : h.Ns mainGlobals mg) (hd : (c == ("__debug__" : Str)) = false) (hn : c ≠ "__name__") (hb : bootBuiltins c = some (.type T)) (l : List (Str × Bool)) (a : PySem.W.nsIn K mainGlobals c = some none)
    (all : ∀ p ∈ l, ∃ D : Addr, PySem.W.nsIn K mainGlobals p.1 = some (some (.ref D)) ∧ PySem.W.kitOne K (.ref D) (.type T) = some p.2 ∧ ExcC K D) : IsF K mg c (fun y => l.lookup y) :=
  ⟨.type T, .ty T, fun u h => h, fun Y p e hg => pe_bltn hg (by rw [e]; exact PySem.W.mg_none_of X G a) hb rfl hn hd, isF_all X G l all⟩
def eIsK (i : Nat) (a : Addr) (o : Option Bool) : Ev := fun ρ S => match o with
  | some b => eIsE i a b ρ S
  | none => .bad
@[simp] theorem ap_eIsK {i : Nat} {a : Addr} {b : Bool} {ρ : Env} {S : Store} : eIsK i a (some b) ρ S = eIsE i a b ρ S := rfl
theorem de_isK {X : Cx} {a : Addr} {oe : Obj} {pn : List (Addr × Obj)} {n c y : Str} {cls : Value} {i : Nat} {kit : Str → Option Bool} {p p1 p2 pos : Pos} (I : IsF X.K X.mg c kit) (hc : Gl X c) (hy : X.mg y = some cls) (hz : Zc cls none oe) (hf : ∃ vs, oe.data = .fields vs) (hN : X.N[i]? = some n)
    (hg : Gl X "isinstance") (hm : X.mg "isinstance" = none) (hvis : Vis X.env.scope n := by first | exact Or.inl rfl | exact Or.inr (Or.inl rfl) | exact Or.inr (Or.inr rfl))
    (hd : (n == ("__debug__" : Str)) = false := by decide) (hcd : (n == ("__classdict__" : Str)) = false := by decide)
    (h1 : starEach [.Name n p1, .Name c p2] X.env = (false, eval (.Name n p1) X.env) :: starEach [.Name c p2] X.env := by rfl) (h2 : starEach [.Name c p2] X.env = (false, eval (.Name c p2) X.env) :: starEach [] X.env := by rfl) (h3 : (backTo pos (starEach [.Name c p2] X.env)).any (·.1) = false := by rfl) :
    DE τ (X.suite a ((a, oe) :: pn)) W0 (.Call (.Name "isinstance" p) [.Name n p1, .Name c p2] [] pos) (eIsK i a (kit y)) := by
  obtain ⟨cv, c0, h4, h5, h6⟩ := I.ex
  cases e : kit y with
  | none => exact ⟨PE.mono (t := fun _ _ _ => False) ⟨fun pins s σ H Q I h => h.elim⟩ fun σ H Q ⟨φ, F, ρ, S, g, sl, q⟩ => q⟩
  | some b =>
    obtain ⟨D, rfl, h7, h8⟩ := h6 y cls b hy e
    exact de_isE h8 hz hf hN hvis (h5 _ p2 rfl hc) h4 h7 hg hm hd hcd h1 h2 h3
theorem ds_tryF {X : Cx} {W : WX} {k i : Nat} {x n : Str} {body suite : List Stmt} {b₀ : Stmt} {np pos pos' : Pos} {fb : Sv} {sub : Str → Option Bool} {fs : Addr → Xn → Sv} (cc : Cc X W k) (T : TryF X.K X.mg x sub) (hi : X.N[i]? = some n) (hln : X.env.kindOf n = some .local) (hg : Gl X x)
    (hb : ∀ (W' : WX) (pn : List (Addr × Obj)) (xe : Value → Shared → Prop), Takes (X.tr pn xe) W' → Cc (X.tr pn xe) W' k → DB τ (X.tr pn xe) W' body fb)
    (hsu : ∀ (a : Addr) (oe : Obj) (y : Xn) (cls : Value) (pn : List (Addr × Obj)), X.mg y.cls = some cls → Zc cls none oe → (∃ vs, oe.data = .fields vs) → DB τ (X.suite a ((a, oe) :: pn)) W0 (b₀ :: suite) (fs a y))
    (hd : (x == ("__debug__" : Str)) = false := by decide) (hs : X.stack = X.env :: X.outer := by rfl) (hf : X.env.frame = some X.env.locals := by rfl) :
    DS τ X W (.Try body [.ExceptHandler (some (.Name x np)) (some n) (b₀ :: suite) pos'] [] [] pos) (sTryAs i fb sub fs) := by
  obtain ⟨C, h1, h2⟩ := T.ex
  exact ds_tryAs cc hi hln ⟨hg, hd, .inl h1⟩ h2 (fun W' pn xe tk po => hb W' pn xe tk (cc.tr tk po)) (fun a oe y cls pn e1 _ _ hz hv => (hsu a oe y cls pn e1 hz hv).r) hs hf
def eDic1 (m : Bool) (i : Int) (f : Ev) : Ev := fun ρ S => (f ρ S).bind fun v S1 => (fr v S1).bind fun d S2 => mkK m [(.int i, d)] S2
@[simp] theorem ap_eDic1 {m : Bool} {i : Int} {f : Ev} {ρ : Env} {S : Store} : eDic1 m i f ρ S = (f ρ S).bind fun v S1 => (fr v S1).bind fun d S2 => mkK m [(.int i, d)] S2 := rfl
theorem de_dic1 {X : Cx} {W : WX} {i : Int} {j : Nat} {e : Expr} {f : Ev} {p1 pos : Pos} (m : Bool) (h : DE τ X W e f) : DE τ X W (.Dict [some (.Constant (.int i) j p1)] [e] pos) (eDic1 m i f) :=
  ⟨PE.mono (pe_disp (pps_cons pe_int h.r pps_nil) (by rfl) (by rfl) (by simp) (by simp)) fun σ H Q ⟨φ, F, ρ, S, g, sl, p⟩ pD hD => by
    have nF : ¬ F pD := fun z => g.dom pD z hD
    have far : ∀ i, i < S.length → φ i ≠ pD := fun i hi => g.neAt hi hD
    have nw0 := (Now.refl g).other (o := .dK []) hD (.inl hD) g.dom nF far
    have p : Post τ X.K X.mg (fun c od H' => W c od σ H') S.length φ F H Q ((f ρ S).bind fun v S1 => (fr v S1).bind fun d S2 => mkK m [(.int i, d)] S2) := p
    refine ⟨φ, F, ρ, S, nw0.sg, sl.now nw0, ?_⟩
    cases e : f ρ S with
    | bad => rw [e] at p; exact p.elim
    | ex x S1 => rw [e] at p; exact fun φ1 F1 H1 nw1 c od rx => p φ1 F1 H1 (Now.trans g nw0 nw1) c od rx
    | ok v S1 =>
      rw [e] at p
      simp only [bind_ok] at p
      intro φ1 F1 H1 nw1 x r1
      have hne : fr v S1 ≠ .bad := fun z => by rw [z] at p; exact p
      obtain ⟨φ2, F2, S2, d, nw2, f2, e2⟩ := fr_ok nw1.sg r1 hne
      rw [e2] at p
      simp only [bind_ok] at p
      have nw12 := Now.trans nw0.sg nw1 nw2
      obtain ⟨a1, a2, a3⟩ := nw12.priv (p := pD) (by rw [upd_same]; simp) (by rw [upd_same]; simp) nF far
      rw [upd_same] at a1
      have nw3 := (Now.trans g nw0 nw12).other (o := .dK [(.inl i, x)]) hD (.inr ⟨_, a1, plain_dK⟩) g.dom a2 a3
      have fz3 : FzKv X.K F2 (upd H1 pD (.dK [(.inl i, x)])) [(.inl i, x)] [(.int i, d)] := .cons (f2.ext (fun _ z => z) fun a ha => upd_ne fun z => a2 (by rw [← z]; exact ha)) .nil
      refine ⟨a1, [(.inl i, x)], rfl, by simp, ?_⟩
      show Q (.ref pD) (upd H1 pD (.dK [(.inl i, x)]))
      cases m with
      | true => exact p _ _ _ (nw3.keep hD a3 ⟨a2, _, upd_same, fz3⟩) _ ⟨by simp, by simp⟩
      | false => exact p _ _ _ (nw3.take hD (by rw [upd_same]; simp) (by rw [upd_same]; simp) a3) _ (.dct (.inr rfl) upd_same (fz3.ext (fun _ z => .inl z) fun _ _ => rfl))⟩
structure DefL (τ : Tb) (K : PySem.W.Frag) (mg : Str → Option Value) (base : Heap) (x y : Str) (st : Stmt) : Prop where
  ex : ∃ (f : Addr) (oc : Value) (od : Option Addr) (kV doc pm : Value) (an : Option Addr) (c P : Addr) (ct : Value) (osl : Array (Option Value)), mg x = some (.ref f) ∧
    K.lookup f = some ⟨oc, od, .func (PySem.W.fnOf y y (defArgs st) (defBody st) (defScope st) .none kV doc pm an (.ref c) ct), osl⟩ ∧ PySem.W.codeIn K (.ref c) y = true ∧ PySem.W.keepIn K (.ref f) = true ∧
    LamX.TabB base mg c P ∧ (P, y ++ ".<locals>." ++ "<lambda>") ∈ τ ∧ ∀ q ∈ τ, q.1 = P → q.2 = y ++ ".<locals>." ++ "<lambda>"
theorem DefL.mk' {τ : Tb} {K : PySem.W.Frag} {mg : Str → Option Value} {base : Heap} {x y : Str} {st : Stmt} {h : Heap} {f : Addr} {oc : Value} {od : Option Addr} {kV doc pm : Value} {an : Option Addr} {c P : Addr} {ct : Value} {osl : Array (Option Value)} (X : K.In h) (G : h.Ns mainGlobals mg) (T : LamX.TabB base mg c P)
    (a : PySem.W.nsIn K mainGlobals x = some (some (.ref f))) (l : K.lookup f = some ⟨oc, od, .func (PySem.W.fnOf y y (defArgs st) (defBody st) (defScope st) .none kV doc pm an (.ref c) ct), osl⟩) (co : PySem.W.codeIn K (.ref c) y = true) (k : PySem.W.keepIn K (.ref f) = true)
    (inT : (P, y ++ ".<locals>." ++ "<lambda>") ∈ τ) (one : ∀ q ∈ τ, q.1 = P → q.2 = y ++ ".<locals>." ++ "<lambda>") : DefL τ K mg base x y st := ⟨f, oc, od, kV, doc, pm, an, c, P, ct, osl, PySem.W.mg_of X G a, l, co, k, T, inT, one⟩
section
variable {P : Program} {w : World} {K : PySem.W.Frag} {mg : Str → Option Value} {base : Heap}
theorem def_okL {x y : Str} {st : Stmt} {N ps : List Str} {k n : Nat} {b : Sv} (Fu : DefL τ K mg base x y st) (Sc : FnScope N ps (defScope st)) (hn : ps.length = n)
    (bi : ∀ (kV doc pm : Value) (an : Option Addr) (cdv ct : Value) (us : List Value), us.length = ps.length → bindArgs (PySem.W.fnOf y y (defArgs st) (defBody st) (defScope st) .none kV doc pm an cdv ct) ⟨us, []⟩ = pure (ps.zip us))
    (body : ∀ (f : Addr) (cdv : Value) (B : Around) (fs : List PySem.Env) (s : Shared) (H : Hp) (E : XK), Lh τ (cxD P w K mg base N y st f cdv B fs s H E) → Cc (cxD P w K mg base N y st f cdv B fs s H E) (wD E) k → DB τ (cxD P w K mg base N y st f cdv B fs s H E) (wD E) (defBody st) b) :
    DefOk τ P w K mg base (k + 1) n x (fnOf N.length b) := by
  obtain ⟨f, oc, od, kV, doc, pm, an, c, Pa, ct, osl, h1, h2, h3, h4, h5, h6, h7⟩ := Fu.ex
  have F := fun_mk (st := st) h2 h3 h4
  subst hn
  exact ⟨f, _, ps, fk_fnC F Sc (fun cdv hc B fs s H E => body f cdv B fs s H E ⟨c, Pa, hc.symm, h5, h6, h7⟩), h1, h4, F.binds bi⟩
theorem law_endL {st : Stmt} {N : List Str} {fa : Addr} {x y : Str} {k : Nat} {b : Sv} {p : Str} (Fu : DefL τ K mg base x y st) (hfa : mg x = some (.ref fa)) (Sc : FnScope N [p] (defScope st))
    (body : ∀ (f : Addr) (cdv : Value) (B : Around) (fs : List PySem.Env) (s : Shared) (H : Hp) (E : XK), Lh τ (cxD P w K mg base N y st f cdv B fs s H E) → Cc (cxD P w K mg base N y st f cdv B fs s H E) (wD E) k → DB τ (cxD P w K mg base N y st f cdv B fs s H E) (wD E) (defBody st) b) {fd : FuncData}
    (same : ∃ (oc : Value) (od : Option Addr) (osl : Array (Option Value)), K.lookup fa = some ⟨oc, od, .func fd, osl⟩) : Fk P w K mg base (k + 1) fa fd [p] (spN τ K mg 1 (fnOf N.length b)) := by
  obtain ⟨f, oc, od, kV, doc, pm, an, c, Pa, ct, osl, h1, h2, h3, h4, h5, h6, h7⟩ := Fu.ex
  have e := hfa.symm.trans h1
  cases e
  obtain ⟨oc2, od2, osl2, h⟩ := same
  rw [h2] at h
  cases h
  exact fk_fnC (fun_mk (st := st) h2 h3 h4) Sc fun cdv hc B fs s H E => body fa cdv B fs s H E ⟨c, Pa, hc.symm, h5, h6, h7⟩
theorem law_endF {st : Stmt} {N : List Str} {fa : Addr} {x y : Str} {k : Nat} {b : Sv} {p : Str} (Fu : DefF K mg x y st) (hfa : mg x = some (.ref fa)) (Sc : FnScope N [p] (defScope st))
    (body : ∀ (f : Addr) (cdv : Value) (B : Around) (fs : List PySem.Env) (s : Shared) (H : Hp) (E : XK), Cc (cxD P w K mg base N y st f cdv B fs s H E) (wD E) k → DB τ (cxD P w K mg base N y st f cdv B fs s H E) (wD E) (defBody st) b) {fd : FuncData}
    (same : ∃ (oc : Value) (od : Option Addr) (osl : Array (Option Value)), K.lookup fa = some ⟨oc, od, .func fd, osl⟩) : Fk P w K mg base (k + 1) fa fd [p] (spN τ K mg 1 (fnOf N.length b)) := by
  obtain ⟨f, oc, od, kV, doc, pm, an, cdv, ct, osl, h1, h2, h3, h4⟩ := Fu.ex
  have e := hfa.symm.trans h1
  cases e
  obtain ⟨oc2, od2, osl2, h⟩ := same
  rw [h2] at h
  cases h
  exact fk_fn (fun_mk (st := st) h2 h3 h4) Sc fun cdv B fs s H E => body fa cdv B fs s H E
theorem law_fd {x y : Str} {st : Stmt} {fa : Addr} {p : Str} {h : Heap} {f : Addr} {oc : Value} {od : Option Addr} {kV doc pm : Value} {an : Option Addr} {cdv ct : Value} {osl : Array (Option Value)} (X : K.In h) (G : h.Ns mainGlobals mg) (hfa : mg x = some (.ref fa)) (a : PySem.W.nsIn K mainGlobals x = some (some (.ref f)))
    (l : K.lookup f = some ⟨oc, od, .func (PySem.W.fnOf y y (defArgs st) (defBody st) (defScope st) .none kV doc pm an cdv ct), osl⟩)
    (bi : ∀ (kV doc pm : Value) (an : Option Addr) (cdv ct : Value) (s : Shared) (v : Value), BindsTo s (PySem.W.fnOf y y (defArgs st) (defBody st) (defScope st) .none kV doc pm an cdv ct) ⟨[v], []⟩ [(p, v)]) :
    ∃ fd : FuncData, (∃ (oc : Value) (od : Option Addr) (osl : Array (Option Value)), K.lookup fa = some ⟨oc, od, .func fd, osl⟩) ∧ ∀ (s : Shared) (u : Value), BindsTo s fd ⟨[u], []⟩ [(p, u)] := by
  have e := hfa.symm.trans (PySem.W.mg_of X G a)
  cases e
  exact ⟨_, ⟨_, _, _, l⟩, fun s u => bi _ _ _ _ _ _ s u⟩
theorem lam_ok {x y a : Str} {st : Stmt} {N : List Str} {k : Nat} {b : Ev → Sv} {gw : Ev → Fn} (Fu : DefF K mg x y st) (Sc : FnScope N [a] (defScope st)) (h0 : N[0]? = some a) (vis : Vis (defScope st) a) (d1 : (a == ("__debug__" : Str)) = false) (d2 : (a == ("__classdict__" : Str)) = false) (hg : ∀ act, gw act = fnOf N.length (b act))
    (bi : ∀ (kV doc pm : Value) (an : Option Addr) (cdv ct : Value) (us : List Value), us.length = 1 → bindArgs (PySem.W.fnOf y y (defArgs st) (defBody st) (defScope st) .none kV doc pm an cdv ct) ⟨us, []⟩ = pure (([a] : List Str).zip us))
    (body : ∀ (f : Addr) (cdv : Value) (B : Around) (fs : List PySem.Env) (s : Shared) (H : Hp) (E : XK) (act : Ev), Cc (cxD P w K mg base N y st f cdv B fs s H E) (wD E) k →
      (∀ (W : WX) (pn : List (Addr × Obj)) (xe : Value → Shared → Prop) (p1 p2 : Pos), Takes ((cxD P w K mg base N y st f cdv B fs s H E).tr pn xe) W → DE τ ((cxD P w K mg base N y st f cdv B fs s H E).tr pn xe) W (.Call (.Name a p1) [] [] p2) act) →
      DB τ (cxD P w K mg base N y st f cdv B fs s H E) (wD E) (defBody st) (b act)) : LamOk τ P w K mg base k x gw := by
  obtain ⟨f, oc, od, kV, doc, pm, an, cdv, ct, osl, h1, h2, h3, h4⟩ := Fu.ex
  have F := fun_mk (st := st) h2 h3 h4
  exact ⟨f, y, a, st, _, N, b, F, h1, h4, F.binds bi, Sc, h0, vis, d1, d2, hg, fun cdv B fs s H E act cc ha => body f cdv B fs s H E act cc ha⟩
end
theorem tab_use {K : PySem.W.Frag} {h : Heap} {q : Program} {x : Str} {f c P : Addr} {goal : Prop} {e : DefRec} {oc : Value} {od : Option Addr} {fd : FuncData} {osl : Array (Option Value)} {oc2 : Value} {od2 : Option Addr} {vs : Array Value} {osl2 : Array (Option Value)}
    (TT : ∀ (y : Str) (e : DefRec) (c P : Addr), (recsOf q).find? (fun e => e.name == y) = some e → PySem.W.tabIn K y = some (c, P) → PySem.W.CodeHd h c P ∧ h.get? P = some (PySem.W.tabObj #[]))
    (r : (recsOf q).find? (fun e => e.name == x) = some e) (a : PySem.W.nsIn K mainGlobals x = some (some (.ref f))) (l : K.lookup f = some ⟨oc, od, .func fd, osl⟩) (hc : fd.code = .ref c) (lc : K.lookup c = some ⟨oc2, od2, .fields vs, osl2⟩) (v : vs[11]? = some (.ref P)) (n : K.lookup P = none)
    (k : PySem.W.CodeHd h c P ∧ h.get? P = some (PySem.W.tabObj #[]) → K.lookup P = none → goal) : goal := by
  refine k (TT x e c P r ?_) n
  unfold PySem.W.tabIn
  rw [a]
  simp only [l, hc, lc, v]
theorem law_use {K : PySem.W.Frag} {mg : Str → Option Value} {x y : Str} {st : Stmt} {fa : Addr} {p : Str} {h : Heap} {f : Addr} {oc : Value} {od : Option Addr} {kV doc pm : Value} {an : Option Addr} {cdv ct : Value} {osl : Array (Option Value)} {goal : Prop} (X : K.In h) (G : h.Ns mainGlobals mg) (hfa : mg x = some (.ref fa)) (a : PySem.W.nsIn K mainGlobals x = some (some (.ref f)))
    (l : K.lookup f = some ⟨oc, od, .func (PySem.W.fnOf y y (defArgs st) (defBody st) (defScope st) .none kV doc pm an cdv ct), osl⟩)
    (bi : ∀ (kV doc pm : Value) (an : Option Addr) (cdv ct : Value) (s : Shared) (v : Value), BindsTo s (PySem.W.fnOf y y (defArgs st) (defBody st) (defScope st) .none kV doc pm an cdv ct) ⟨[v], []⟩ [(p, v)])
    (k : ∀ fd : FuncData, (∃ (oc : Value) (od : Option Addr) (osl : Array (Option Value)), K.lookup fa = some ⟨oc, od, .func fd, osl⟩) → (∀ (s : Shared) (u : Value), BindsTo s fd ⟨[u], []⟩ [(p, u)]) → goal) : goal := by
  obtain ⟨fd, h1, h2⟩ := law_fd X G hfa a l bi
  exact k fd h1 h2
abbrev IsL (K : PySem.W.Frag) (cv : Value) (l : List (Str × Bool)) : Prop := ∀ p ∈ l, ∃ D : Addr, PySem.W.nsIn K mainGlobals p.1 = some (some (.ref D)) ∧ PySem.W.kitOne K (.ref D) cv = some p.2 ∧ ExcC K D
theorem is_nil {K : PySem.W.Frag} {cv : Value} : IsL K cv [] := fun _ h => nomatch h
theorem is_cons {K : PySem.W.Frag} {cv : Value} {x : Str} {b : Bool} {l : List (Str × Bool)} {D : Addr} (a : PySem.W.nsIn K mainGlobals x = some (some (.ref D))) (k : PySem.W.kitOne K (.ref D) cv = some b)
    (e1 : PySem.W.findIn K (.ref D) "__getattribute__" = some (some (.builtin "BaseException.__getattribute__"))) (e2 : PySem.W.findIn K (.ref D) "__getattr__" = some none) (e3 : PySem.W.subIn K (.ref D) (.type "BaseException") = some true) (e4 : PySem.W.hasDictIn K D = true)
    (e5 : PySem.W.findIn K (.ref D) "__class__" = some (some (.builtin "object.__class__"))) (e6 : PySem.W.specialIn K (.builtin "object.__class__") "__get__" = some (some (.builtin "getset_descriptor.__get__"))) (e7 : PySem.W.takesIn K (.builtin "object.__class__") = some true)
    (e8 : PySem.W.mroIn K D (.type "object") = some true) (r : IsL K cv l) : IsL K cv ((x, b) :: l) := fun p hp => by
  rcases List.mem_cons.mp hp with rfl | hp
  · exact ⟨D, a, k, e1, e2, e3, e4, e5, e6, e7, e8⟩
  · exact r p hp
abbrev TrL (K : PySem.W.Frag) (C : Addr) (l : List (Str × Bool)) : Prop := ∀ p ∈ l, ∃ D : Addr, PySem.W.nsIn K mainGlobals p.1 = some (some (.ref D)) ∧ PySem.W.exmOne K (.ref D) (.ref C) = some p.2
theorem tr_nil {K : PySem.W.Frag} {C : Addr} : TrL K C [] := fun _ h => nomatch h
theorem tr_cons {K : PySem.W.Frag} {C : Addr} {x : Str} {b : Bool} {l : List (Str × Bool)} {D : Addr} (a : PySem.W.nsIn K mainGlobals x = some (some (.ref D))) (k : PySem.W.exmOne K (.ref D) (.ref C) = some b) (r : TrL K C l) : TrL K C ((x, b) :: l) := fun p hp => by
  rcases List.mem_cons.mp hp with rfl | hp
  · exact ⟨D, a, k⟩
  · exact r p hp
theorem de_gloD {X : Cx} {W : WX} {x y : Str} {st : Stmt} {pos : Pos} (D : DefF X.K X.mg x y st) (hg : Gl X x) (hd : (x == ("__debug__" : Str)) = false := by decide) : DE τ X W (.Name x pos) (eGlo x) := by
  obtain ⟨f, oc, od, kV, doc, pm, an, cdv, ct, osl, h1, _⟩ := D.ex
  exact de_glo (v := .ref f) hg h1 rfl hd
abbrev TblL (τ : Tb) (P : Program) (w : World) (K : PySem.W.Frag) (mg : Str → Option Value) (base : Heap) (j : Nat) (l : List (Str × (Nat × Fn))) : Prop := ∀ p ∈ l, ∃ k, k ≤ j ∧ DefOk τ P w K mg base k p.2.1 p.1 p.2.2
section
variable {P : Program} {w : World} {K : PySem.W.Frag} {mg : Str → Option Value} {base : Heap} {j : Nat}
theorem tbl_nil : TblL τ P w K mg base j [] := fun _ h => nomatch h
theorem tbl_cons {k n : Nat} {x : Str} {g : Fn} {l : List (Str × (Nat × Fn))} (ok : DefOk τ P w K mg base k n x g) (h : k ≤ j) (r : TblL τ P w K mg base j l) : TblL τ P w K mg base j ((x, (n, g)) :: l) := fun p hp => by
  rcases List.mem_cons.mp hp with rfl | hp
  · exact ⟨k, h, ok⟩
  · exact r p hp
theorem tbl_use {l : List (Str × (Nat × Fn))} (h : TblL τ P w K mg base j l) : ∀ x n g, l.lookup x = some (n, g) → ∃ k, k ≤ j ∧ DefOk τ P w K mg base k n x g := fun x n g e => h (x, (n, g)) (PySem.mem_of_lookup e)
end
theorem lcL_filt {tg : Tg} {t : Tv} {f : Ev} {ρ : Env} (p : D → Bool) {S : Store} : ∀ (xs acc : List D), (∀ x ∈ xs, ∃ ρ1, tg (.d x) ρ = some ρ1 ∧ t ρ1 S = .ok (p x) S ∧ f ρ1 S = .ok (.d x) S) → acc.length + xs.length ≤ 16000000 → lcL tg t f ρ xs acc S = .ok (acc ++ xs.filter p) S
  | [], acc, _, _ => by simp
  | x :: xs, acc, h, hl => by
    obtain ⟨ρ1, e1, e2, e3⟩ := h x (by simp)
    have hl' : acc.length + (xs.length + 1) ≤ 16000000 := hl
    have hs : acc.length < sizeLine := Nat.lt_of_lt_of_le (by omega) (show 16000000 ≤ sizeLine by decide)
    unfold lcL
    cases q : p x with
    | true =>
      have ih := lcL_filt p (S := S) xs (acc ++ [x]) (fun y hy => h y (by simp [hy])) (by simp; omega)
      rw [q] at e2
      simp only [e1, e2, noX_ok, bind_ok, if_true, e3, fr_d, hs]
      rw [ih]
      simp [q]
    | false =>
      have ih := lcL_filt p (S := S) xs acc (fun y hy => h y (by simp [hy])) (by omega)
      rw [q] at e2
      simp only [e1, e2, noX_ok, bind_ok, Bool.false_eq_true, if_false]
      rw [ih]
      simp [q]
def headD : List D → D
  | [] => .none
  | x :: _ => x
theorem head_find (p : D → Bool) : ∀ xs : List D, headD (xs.filter p) = (xs.find? p).getD .none
  | [] => rfl
  | x :: xs => by
    cases h : p x with
    | true => simp [h, headD]
    | false => simp [h, head_find p xs]
theorem head_mem {xs : List D} : headD xs = .none ∨ headD xs ∈ xs := by
  cases xs with
  | nil => exact .inl rfl
  | cons x xs => exact .inr (by simp [headD])
theorem forL_find {i : Nat} {sb : Sv} (p : D → Bool) {S : Store} {I : Env → Prop} (hi : ∀ ρ x, I ρ → I (ρ.set i (some (.d x)))) (hlen : ∀ ρ, I ρ → i < ρ.length) :
    ∀ (xs : List D), (∀ ρ x, x ∈ xs → I ρ → ρ[i]? = some (some (.d x)) → sb ρ S = if p x = true then .ret (.d x) S else .nx ρ S) → ∀ (ρ : Env), I ρ → (∀ x, xs.find? p = some x → forL (gN i) sb xs ρ S = .ret (.d x) S) ∧ (xs.find? p = none → ∃ ρ', I ρ' ∧ forL (gN i) sb xs ρ S = .nx ρ' S)
  | [], _, ρ, h => ⟨fun x e => by simp at e, fun _ => ⟨ρ, h, rfl⟩⟩
  | x :: xs, step, ρ, h => by
    have s := step (ρ.set i (some (.d x))) x (by simp) (hi ρ x h) (by simp [hlen ρ h])
    have ih := forL_find p hi hlen xs (fun ρ y hy => step ρ y (by simp [hy])) (ρ.set i (some (.d x))) (hi ρ x h)
    rw [ap_forL1]
    simp only [ap_gN]
    rw [s]
    cases q : p x with
    | true =>
      simp only [if_true]
      exact ⟨fun y e => by rw [List.find?_cons_of_pos q] at e; cases e; rfl, fun e => by rw [List.find?_cons_of_pos q] at e; cases e⟩
    | false =>
      simp only [Bool.false_eq_true, if_false]
      rw [List.find?_cons_of_neg (by simp [q])]
      exact ih
theorem rangeD_mem {lo hi : Int} {d : D} (h : d ∈ rangeD lo hi) : ∃ i : Int, d = .int i ∧ lo ≤ i ∧ i < hi := by
  obtain ⟨k, hk, rfl⟩ := List.mem_map.mp h
  rw [List.mem_range] at hk
  exact ⟨lo + (k : Nat), rfl, by omega, by omega⟩
theorem tup_one (l : Addr) (items : Array Value) (n : Nat) (dd : Option Addr) (sl : Array (Option Value)) (x : Int) (u : Tok) (c0 : (decide (x < -(2 ^ 63)) || decide (x ≥ 2 ^ 63)) = false) (c1 : (items.isEmpty || x == 1) = true) :
    Meets (Builtin.«tuple.__mul__» ⟨[.ref l, .int x u], []⟩) (fun _ R s => s.heap.get? l = some { cls := .type "tuple", dict := dd, data := .seq items n, slots := sl } ∧ R (.ok (.ret (Value.ref l))) s) :=
  .of_wp fun prog w A R s h => by
    obtain ⟨hp, g, d, tk, os⟩ := s
    obtain ⟨hl, h⟩ := h
    have f1 := AutoSeq1.idx_int
    wp_walk using wpAny_loadPart' hl
    repeat (first
      | (refine wpAny_ite_false (decide_eq_false (by rw [c0]; exact Bool.false_ne_true)) ?_; wp_walk using wpAny_loadPart' hl)
      | (refine wpAny_ite_true (decide_eq_true c1) ?_; wp_walk using wpAny_loadPart' hl))
    exact ⟨_, rfl, h⟩
theorem tup_zero (l : Addr) (items : Array Value) (n : Nat) (dd : Option Addr) (sl : Array (Option Value)) (x : Int) (u : Tok) (c0 : (decide (x < -(2 ^ 63)) || decide (x ≥ 2 ^ 63)) = false) (c1 : (items.isEmpty || x == 1) = false) (c2 : (decide (x ≤ 0) || items.isEmpty) = true) :
    Meets (Builtin.«tuple.__mul__» ⟨[.ref l, .int x u], []⟩) (fun _ R s => s.heap.get? l = some { cls := .type "tuple", dict := dd, data := .seq items n, slots := sl } ∧
      R (.ok (.ret (Value.ref s.heap.objs.size))) { s with heap := s.heap.push { cls := Value.type "tuple", data := Data.seq #[] }, toks := s.toks }) :=
  .of_wp fun prog w A R s h => by
    obtain ⟨hp, g, d, tk, os⟩ := s
    obtain ⟨hl, h⟩ := h
    have f1 := AutoSeq1.idx_int
    wp_walk using wpAny_loadPart' hl
    repeat (first
      | (refine wpAny_ite_false (decide_eq_false (by rw [c0]; exact Bool.false_ne_true)) ?_; wp_walk using wpAny_loadPart' hl)
      | (refine wpAny_ite_false (decide_eq_false (by rw [c1]; exact Bool.false_ne_true)) ?_; wp_walk using wpAny_loadPart' hl)
      | (refine wpAny_ite_true (decide_eq_true c2) ?_; wp_walk using wpAny_loadPart' hl))
    exact ⟨_, rfl, h⟩
def rRepS (K : PySem.W.Frag) : R2 := fun x y H Q => ∃ l k xs, x = .ref l ∧ y = .int k ∧ SqT K H l xs ∧ xs ≠ [] ∧ ((k = 1 ∧ Q (.ref l) H) ∨ (k = 0 ∧ ∀ p, H p = none → Q (.ref p) (upd H p (.tup []))))
theorem op_repS {X : Cx} : OpR X (binaryOp .Mult) (rRepS X.K) := by
  intro pins s σ H x y v u Q I rx ry h
  obtain ⟨l, k, xs, rfl, rfl, hT, hne, q⟩ := h
  cases rx
  obtain ⟨t, rfl⟩ := ry
  obtain ⟨its, r, ⟨⟨cls, dd, data, sl⟩, ho, hc, n, hd⟩, hs⟩ := I.tuple hT
  simp only at hc hd
  subst hc hd
  have hle : its.length = xs.length := r.length.symm
  have full : its.toArray.isEmpty = false := by
    cases its with
    | nil => exact absurd (List.eq_nil_of_length_eq_zero hle.symm) hne
    | cons a b => rfl
  rcases q with ⟨rfl, q⟩ | ⟨rfl, q⟩
  · refine wpAny_binaryOp_repeat_ref (T := "tuple") (U := "int") (by decide) ⟨_, ho, rfl⟩ (fun s' => typeIs_int s' 1 t) noFill_tuple_mul F.fills_int_mul F.slot_int_rmul repeat_tuple F.slot_int_index.lookup
      (call_meets F.slot_int_rmul (typeIs_int s 1 t) F.entry_int_rmul (F.args_int_rmul_2 _ _) (int_rmul_tuple 1 t l its.toArray n dd sl)
        ⟨ho, rfl, ⟨_, ho, rfl⟩, call_meets F.slot_tuple_mul ⟨_, ho, rfl⟩ F.entry_tuple_mul (F.args_tuple_mul_2 _ _) (tup_one l its.toArray n dd sl 1 t (by decide) (by rw [full]; rfl)) ⟨ho, ?_⟩⟩)
    exact ⟨.ref l, H, I, rfl, q⟩
  · refine wpAny_binaryOp_repeat_ref (T := "tuple") (U := "int") (by decide) ⟨_, ho, rfl⟩ (fun s' => typeIs_int s' 0 t) noFill_tuple_mul F.fills_int_mul F.slot_int_rmul repeat_tuple F.slot_int_index.lookup
      (call_meets F.slot_int_rmul (typeIs_int s 0 t) F.entry_int_rmul (F.args_int_rmul_2 _ _) (int_rmul_tuple 0 t l its.toArray n dd sl)
        ⟨ho, rfl, ⟨_, ho, rfl⟩, call_meets F.slot_tuple_mul ⟨_, ho, rfl⟩ F.entry_tuple_mul (F.args_tuple_mul_2 _ _) (tup_zero l its.toArray n dd sl 0 t (by decide) (by rw [full]; rfl) (by rfl)) ⟨ho, ?_⟩⟩)
    refine ⟨.ref s.heap.objs.size, _, I.laid (t' := s.toks) (o := .tup []) (fun b ob q => Heap.get?_push_of_some _ q) (Nat.le_refl _) ?_, rfl, q _ (I.hok.fresh (Nat.le_refl _))⟩
    exact ⟨Nat.zero_le _, [], .nil, IsTup.new _ _⟩
def oMulT (m : Bool) (a b : Vl) (S : Store) : Res Vl := match view S a, view S b with
  | some (.tuple xs), some (.int k) => if xs ≠ [] ∧ k = 1 then .ok (.d (.tuple xs)) S else if xs ≠ [] ∧ k = 0 then .ok (.d (.tuple [])) S else oMul m a b S
  | _, _ => oMul m a b S
theorem op_mulT {X : Cx} : OpR X (binaryOp .Mult) (fun x y H Q => (rMulX x y H Q ∨ rRep x y H Q ∨ rRepT X.K x y H Q) ∨ rRepS X.K x y H Q) := fun pins s σ H x y v u Q I rx ry h => h.elim (op_mulX' pins s σ H x y v u Q I rx ry) (op_repS pins s σ H x y v u Q I rx ry)
theorem ok_mulT {K : PySem.W.Frag} {mg : Str → Option Value} {m : Bool} : OpOk τ K mg (fun x y H Q => (rMulX x y H Q ∨ rRep x y H Q ∨ rRepT K x y H Q) ∨ rRepS K x y H Q) (oMulT m) := by
  intro φ F H S x y v u Q W g r1 r2 p
  unfold oMulT at p
  split at p
  · rename_i xs k e1 e2
    have o1 := ob_of g r1 e1
    have o2 := ob_of g r2 e2
    obtain ⟨a, ys, rfl, h1, h2⟩ := o1
    have o2 : y = .int k := o2
    split at p
    · rename_i c
      refine .inr ⟨a, k, ys, rfl, o2, h1.sq, fun z => c.1 (by have := h2.len; rw [z] at this; exact List.eq_nil_of_length_eq_zero this.symm), .inl ⟨c.2, Post.ok g p (.tup h1 h2)⟩⟩
    · split at p
      · rename_i c
        exact .inr ⟨a, k, ys, rfl, o2, h1.sq, fun z => c.1 (by have := h2.len; rw [z] at this; exact List.eq_nil_of_length_eq_zero this.symm), .inr ⟨c.2, Post.newT g .nil p⟩⟩
      · exact .inl (ok_mul g r1 r2 p)
  · exact .inl (ok_mul g r1 r2 p)
open Classical in
noncomputable def lcLM (k : Nat) (ds0 : List D) (g : Tg) (t : Tv) (e : Ev) (ρ : Env) : List D → List D → Store → Res (List D)
  | [], acc, S => if S[k]? = some (.lst ds0) then .ok acc S else .bad
  | x :: xs, acc, S => if S[k]? = some (.lst ds0) then match g (.d x) ρ with
    | none => .bad
    | some ρ1 => (noX (t ρ1 S)).bind fun c S1 => if c = true then (noX (e ρ1 S1)).bind fun v S2 => (fr v S2).bind fun d S3 => if acc.length < sizeLine then lcLM k ds0 g t e ρ xs (acc ++ [d]) S3 else .bad
      else lcLM k ds0 g t e ρ xs acc S1
    else .bad
noncomputable def eLcM (m : Bool) (it : List D → List D) (f : Ev) (g : Tg) (t : Tv) (e : Ev) (vs : List Nat) : Ev := fun ρ S => (f ρ S).bind fun v S1 => match v with
  | .loc k => match S1[k]? with
    | some (.lst ds) => (lcLM k ds g t e (wipeE ρ vs) (it ds) [] S1).bind fun acc S2 => mkL m acc S2
    | _ => .bad
  | _ => .bad
@[simp] theorem ap_eLcM {m : Bool} {it : List D → List D} {f : Ev} {g : Tg} {t : Tv} {e : Ev} {vs : List Nat} {ρ : Env} {S : Store} : eLcM m it f g t e vs ρ S = (f ρ S).bind fun v S1 => match v with
  | .loc k => match S1[k]? with
    | some (.lst ds) => (lcLM k ds g t e (wipeE ρ vs) (it ds) [] S1).bind fun acc S2 => mkL m acc S2
    | _ => .bad
  | _ => .bad := rfl
structure Ml (K : PySem.W.Frag) (J : It) (a : Addr) (it : List D → List D) : Prop where
  len : ∀ ds, (it ds).length = ds.length
  goes : ∀ i H xs, H a = some (.lst xs) → i < xs.length → J.go i H
  stops : ∀ H xs, H a = some (.lst xs) → J.stop xs.length H
  yields : ∀ i F H xs ds v H'', H a = some (.lst xs) → FzAll K F H xs ds → i < ds.length → J.yld i H v H'' → ∃ d, (it ds)[i]? = some d ∧ YI K F H H v H'' d
theorem ml_list {K : PySem.W.Frag} {a : Addr} : Ml K (Itl K a) a fun ds => ds := by
  refine ⟨fun ds => rfl, fun i H xs h hi => ⟨xs, xs[i], .inl (.inl h), by simp [hi]⟩, fun H xs h => ⟨xs, .inl (.inl h), Nat.le_refl _⟩, fun i F H xs ds v H'' h fz hi y => ?_⟩
  obtain ⟨v', hv, fv⟩ := fz.get (List.getElem?_eq_getElem hi)
  have e := y.2 xs (.inl (.inl h))
  rw [hv] at e
  cases e
  exact ⟨ds[i], List.getElem?_eq_getElem hi, .inl ⟨y.1, fv⟩⟩
theorem ml_enum {K : PySem.W.Frag} {a : Addr} : Ml K (Ite K a) a enumD := by
  refine ⟨fun ds => enumD_len, fun i H xs h hi => ⟨xs, xs[i], .inl (.inl h), by simp [hi]⟩, fun H xs h => ⟨xs, .inl (.inl h), Nat.le_refl _⟩, fun i F H xs ds v H'' h fz hi y => ?_⟩
  obtain ⟨v', hv, fv⟩ := fz.get (List.getElem?_eq_getElem hi)
  obtain ⟨T, x, e1, e2, e3, e4⟩ := y
  have e := e4 xs (.inl (.inl h))
  rw [hv] at e
  cases e
  exact ⟨_, enumD_get hi, .inr ⟨T, _, _, e1, e2, e3, rfl, .cons (.int _) (.cons fv .nil)⟩⟩
section
variable {X : Cx} {W : WX} {tg elt : Expr} {ifs : List Expr} {scope : Scope} {own : List (Str × Nat)} {pos : Pos} {f : Ev} {g : Tg} {ws : List Nat} {t : Tv} {e : Ev}
theorem lcm_core {m : Bool} {vs : List Nat} {k : Nat} {ds : List D} {it : List D → List D} (hw : ∀ i, i ∈ ws → i ∈ vs) {σ : L2.St} {ρ : Env} {Q : VK} {φ1 : Nat → Addr} {F1 : Addr → Prop} {H1 : Hp} {S1 : Store} {J : It} {Wx : XW} (gs : SG τ X.K φ1 F1 H1 S1) (sl1 : Slots X.K X.mg φ1 F1 H1 S1.length σ ρ) (hk : S1[k]? = some (.lst ds)) (ml : Ml X.K J (φ1 k) it)
    (p1 : Post τ X.K X.mg Wx S1.length φ1 F1 H1 Q ((lcLM k ds g t e (wipeE ρ vs) (it ds) [] S1).bind fun acc S2 => mkL m acc S2)) :
    ∀ D, H1 D = none → ∃ W : Nat → Nat → Hp → Prop, (∃ m, W 0 m (upd H1 D (.lst []))) ∧ ∀ i m H, W i m H →
  (J.stop i H ∧ Q (.ref D) H) ∨ (J.go i H ∧ ∃ Nx : Hp → Prop, (∀ H', Nx H' → ∃ m', m' < m ∧ W (i + 1) m' H') ∧ ∀ x H', J.yld i H x H' → RG τ X.K X.mg g ws x (wipe σ vs) H' fun σ2 H2 => wipe σ2 vs = wipe σ vs ∧ RT τ X.K X.mg W0 t σ2 H2 fun b H3 =>
    if b = true then RE τ X.K X.mg W0 e σ2 H3 fun y H4 => ∃ acc, H4 D = some (.lst acc) ∧ acc.length < sizeLine ∧ Nx (upd H4 D (.lst (acc ++ [y]))) else Nx H3) := by
  intro Dd hD
  have dom1 := gs.dom
  have nF1 : ¬ F1 Dd := fun h => dom1 Dd h hD
  have hk1 : k < S1.length := (List.getElem?_eq_some_iff.mp hk).1
  have live : ∀ {i : Nat} {H2 : Hp} {φ2 : Nat → Addr} {F2 : Addr → Prop} {S2 : Store} {acc : List D}, Now τ X.K S1.length φ1 F1 H1 φ2 F2 H2 S2 → Post τ X.K X.mg Wx S1.length φ1 F1 H1 Q ((lcLM k ds g t e (wipeE ρ vs) ((it ds).drop i) acc S2).bind fun acc S2 => mkL m acc S2) → S2[k]? = some (.lst ds) ∧ ∃ xs, H2 (φ1 k) = some (.lst xs) ∧ FzAll X.K F2 H2 xs ds := by
    intro i H2 φ2 F2 S2 acc nw p
    have h : S2[k]? = some (.lst ds) := by
      cases q : (it ds).drop i with
      | nil =>
        rw [q] at p
        unfold lcLM at p
        by_cases h : S2[k]? = some (.lst ds)
        · exact h
        · rw [if_neg h] at p; exact p.elim
      | cons y ys =>
        rw [q] at p
        unfold lcLM at p
        by_cases h : S2[k]? = some (.lst ds)
        · exact h
        · rw [if_neg h] at p; exact p.elim
    obtain ⟨_, xs, h2, h3⟩ := nw.sg.obj k _ h
    rw [nw.ext.loc k hk1] at h2
    exact ⟨h, xs, h2, h3⟩
  refine lc_it (n := ds.length) (G := fun H => ∃ xs, H (φ1 k) = some (.lst xs) ∧ xs.length = ds.length) (Y := fun i H x H' => J.yld i H x H') ⟨fun i H hi ⟨xs, h, hl⟩ => ml.goes i H xs h (by omega), fun H ⟨xs, h, hl⟩ => by rw [← hl]; exact ml.stops H xs h, fun _ _ _ _ _ _ y => y⟩
    (fun i H2 => ∃ φ2 F2 S2 xs acc, Now τ X.K S1.length φ1 F1 H1 φ2 F2 H2 S2 ∧ H2 Dd = some (.lst xs) ∧ ¬ F2 Dd ∧ (∀ i, i < S2.length → φ2 i ≠ Dd) ∧ FzAll X.K F2 H2 xs acc ∧
      Post τ X.K X.mg Wx S1.length φ1 F1 H1 Q ((lcLM k ds g t e (wipeE ρ vs) ((it ds).drop i) acc S2).bind fun acc S2 => mkL m acc S2))
    ⟨φ1, F1, S1, [], [], (Now.refl gs).other hD (.inl hD) dom1 nF1 fun i hi => gs.neAt hi hD, upd_same, nF1, fun i hi => gs.neAt hi hD, .nil, p1⟩ (fun i H2 _ ⟨φ2, F2, S2, xs, acc, n, _, _, _, _, p2⟩ => by
      obtain ⟨_, ys, h2, h3⟩ := live n p2
      exact ⟨ys, h2, h3.len⟩) ?_ ?_
  · intro i v H2 H3 hlt ⟨φ2, F2, S2, xs, acc, nw2, d2, f2, s2, fz2, p2⟩ yl
    obtain ⟨hS, ys, hy, fy⟩ := live nw2 p2
    obtain ⟨d, hd, yi⟩ := ml.yields i F2 H2 ys ds v H3 hy fy hlt yl
    have hdr : (it ds).drop i = d :: (it ds).drop (i + 1) := by
      obtain ⟨h1, h2⟩ := List.getElem?_eq_some_iff.mp hd
      rw [← h2, List.drop_eq_getElem_cons h1]
    rw [hdr] at p2
    obtain ⟨F3, nw3, fz3⟩ : ∃ F3, Now τ X.K S2.length φ2 F2 H2 φ2 F3 H3 S2 ∧ Fz X.K F3 H3 v d := by
      rcases yi with ⟨rfl, fz⟩ | ⟨T, us, es, rfl, hT, rfl, rfl, fz⟩
      · exact ⟨F2, .refl nw2.sg, fz⟩
      · have nw := nw2.sg.fresh (o := .tup us) hT
        exact ⟨_, nw, .tup (.inl ⟨.inr rfl, upd_same⟩) (fz.ext nw.ext.sub nw.ext.same)⟩
    have base3 := Now.trans gs nw2 nw3
    obtain ⟨d3, f3, s3⟩ := nw3.priv (by rw [d2]; simp) (by rw [d2]; simp) f2 s2
    have slw : Slots X.K X.mg φ2 F3 H3 S2.length (L2.wipe σ vs) (wipeE ρ vs) := ((sl1.now nw2).now nw3).wiped vs
    refine ⟨φ2, F3, wipeE ρ vs, S2, .d d, nw3.sg, slw, fz3, ?_⟩
    unfold lcLM at p2
    rw [if_pos hS] at p2
    cases q : g (.d d) (wipeE ρ vs) with
    | none => rw [q] at p2; exact p2.elim
    | some ρ3 =>
      simp only [q] at p2 ⊢
      have go : Post τ X.K X.mg Wx S1.length φ1 F1 H1 Q (((noX (t ρ3 S2)).bind fun c S1 => if c = true then (noX (e ρ3 S1)).bind fun v S2 => (fr v S2).bind fun d S3 => if acc.length < sizeLine then lcLM k ds g t e (wipeE ρ vs) ((it ds).drop (i + 1)) (acc ++ [d]) S3 else .bad
        else lcLM k ds g t e (wipeE ρ vs) ((it ds).drop (i + 1)) acc S1).bind fun acc S2 => mkL m acc S2) := p2
      refine fun σ3 sl3 n3 => ⟨wipe_same hw n3, φ2, F3, ρ3, S2, nw3.sg, sl3, ?_⟩
      cases et : t ρ3 S2 with
      | bad => rw [et] at go; exact go.elim
      | ex x S4 => rw [et] at go; exact go.elim
      | ok b S4 =>
        rw [et] at go
        simp only [noX_ok, bind_ok] at go
        intro φ4 F4 H4 nw4 b' eb
        have eb : b' = b := eb
        subst eb
        have base4 := Now.trans gs base3 nw4
        obtain ⟨d4, f4, s4⟩ := nw4.priv (by rw [d3, d2]; simp) (by rw [d3, d2]; simp) f3 s3
        have d4' : H4 Dd = some (.lst xs) := by rw [d4, d3, d2]
        have fz4 : FzAll X.K F4 H4 xs acc := (fz2.ext nw3.ext.sub nw3.ext.same).ext nw4.ext.sub nw4.ext.same
        cases b' with
        | false =>
          simp only [Bool.false_eq_true, if_false] at go ⊢
          exact ⟨φ4, F4, S4, xs, acc, base4, d4', f4, s4, fz4, go⟩
        | true =>
          simp only [if_true] at go ⊢
          refine ⟨φ4, F4, ρ3, S4, nw4.sg, sl3.now nw4, ?_⟩
          cases ee : e ρ3 S4 with
          | bad => rw [ee] at go; exact go.elim
          | ex x S5 => rw [ee] at go; exact go.elim
          | ok v5 S5 =>
            rw [ee] at go
            simp only [noX_ok, bind_ok] at go
            intro φ5 F5 H5 nw5 y ry
            have hne : fr v5 S5 ≠ .bad := fun e => by rw [e] at go; exact go
            obtain ⟨φ6, F6, S6, d6, nw6, fz6, e6⟩ := fr_ok nw5.sg ry hne
            rw [e6] at go
            simp only [noX_ok, bind_ok] at go
            by_cases hl : acc.length < sizeLine
            · rw [if_pos hl] at go
              have nw56 := Now.trans nw4.sg nw5 nw6
              have base6 := Now.trans gs base4 nw56
              obtain ⟨d7, f7, s7⟩ := nw56.priv (by rw [d4']; simp) (by rw [d4']; simp) f4 s4
              rw [d4'] at d7
              have fz7 : FzAll X.K F6 H5 xs acc := fz4.ext nw56.ext.sub nw56.ext.same
              refine ⟨xs, d7, by rw [fz7.len]; exact hl, φ6, F6, S6, xs ++ [y], acc ++ [d6], base6.other hD (.inr ⟨_, d7, plain_lst⟩) dom1 f7 s7, upd_same, f7, s7, ?_, go⟩
              exact (fz7.append (.cons fz6 .nil)).ext (fun _ h => h) fun a h => upd_ne fun e => f7 (by rw [← e]; exact h)
            · rw [if_neg hl] at go; exact go.elim
  · intro H2 ⟨φ2, F2, S2, xs, acc, nw2, d2, f2, s2, fz2, p2⟩
    obtain ⟨hS, _⟩ := live nw2 p2
    rw [show (it ds).drop ds.length = [] by rw [← ml.len ds, List.drop_length]] at p2
    unfold lcLM at p2
    rw [if_pos hS] at p2
    have p2 : Post τ X.K X.mg Wx S1.length φ1 F1 H1 Q (mkL m acc S2) := p2
    cases m with
    | true => exact p2 _ _ _ (nw2.keep hD s2 ⟨f2, xs, d2, fz2⟩) _ ⟨by simp, by simp⟩
    | false => exact p2 _ _ _ (nw2.take hD (by rw [d2]; simp) (by rw [d2]; simp) s2) _ (.lst (.inr rfl) d2 (fz2.ext (fun _ h => .inl h) fun _ _ => rfl))
theorem PostG.loc {m : Bool} {it : List D → List D} {vs : List Nat} {ρ : Env} {Q : VK} {Wx : XW} {n : Nat} {φ : Nat → Addr} {F : Addr → Prop} {H : Hp} {v : Vl} {S1 : Store} (p : Post τ X.K X.mg Wx n φ F H Q (match v with
    | .loc k => match S1[k]? with
      | some (.lst ds) => (lcLM k ds g t e (wipeE ρ vs) (it ds) [] S1).bind fun acc S2 => mkL m acc S2
      | _ => .bad
    | _ => .bad)) : ∃ k ds, v = .loc k ∧ S1[k]? = some (.lst ds) ∧ Post τ X.K X.mg Wx n φ F H Q ((lcLM k ds g t e (wipeE ρ vs) (it ds) [] S1).bind fun acc S2 => mkL m acc S2) := by
  cases v with
  | loc k =>
    cases h : S1[k]? with
    | none => simp only [h] at p; exact p.elim
    | some o =>
      cases o with
      | lst ds => simp only [h] at p; exact ⟨k, ds, rfl, h, p⟩
      | _ => simp only [h] at p; exact p.elim
  | _ => exact p.elim
theorem lcm_readsL {m : Bool} {vs : List Nat} (hw : ∀ i, i ∈ ws → i ∈ vs) {σ : L2.St} {H : Hp} {Q : VK} (h : RE τ X.K X.mg W (eLcM m (fun ds => ds) f g t e vs) σ H Q) :
    tLc (jSeq X.K (RE τ X.K X.mg W f)) (RG τ X.K X.mg g ws) (RT τ X.K X.mg W0 t) (RE τ X.K X.mg W0 e) vs σ H Q := by
  obtain ⟨φ, F, ρ, S, gs, sl, p⟩ := h
  refine ⟨φ, F, ρ, S, gs, sl, PostG.bind gs p fun φ1 F1 H1 S1 v x nw1 r1 p1 => ?_⟩
  obtain ⟨k, ds, rfl, hk, p1⟩ := PostG.loc p1
  obtain ⟨_, rfl⟩ := r1
  obtain ⟨_, xs, hx, _⟩ := nw1.sg.obj k _ hk
  exact ⟨_, rfl, .inl ⟨⟨xs, .inl (.inl hx)⟩, lcm_core hw nw1.sg (sl.now nw1) hk ml_list p1⟩⟩
theorem de_lcM {l : Expr} {k : Nat} (m : Bool) (cc : Cc X W k) (hi : DE τ X W l f) (ok : BlkOk X.N X.env.scope scope own) (hg : ∀ (s : Shared) (H : Hp) (C : Addr) (cl : List (Str × Addr)) (fp : List Addr), DG τ (X.blk s H scope (compEnvC scope cl C X.env) fp) tg g ws)
    (ht : ∀ (s : Shared) (H : Hp) (C : Addr) (cl : List (Str × Addr)) (fp : List Addr), DTs τ (X.blk s H scope (compEnvC scope cl C X.env) fp) W0 ifs t) (he : ∀ (s : Shared) (H : Hp) (C : Addr) (cl : List (Str × Addr)) (fp : List Addr), DE τ (X.blk s H scope (compEnvC scope cl C X.env) fp) W0 elt e)
    (hw : ∀ i, i ∈ ws → i ∈ own.map (·.2) := by decide) (hs : ∀ x, foldedSetIterable l X.env x = pure x := by intro _; rfl) : DE τ X W (.ListComp elt [⟨tg, l, ifs, 0⟩] scope pos) (eLcM m (fun ds => ds) f g t e (own.map (·.2))) :=
  ⟨PE.mono (pe_lc cc.calm cc.nd (pi_seq hi.r) ok (fun s H C cl fp => (hg s H C cl fp).r) (fun s H C cl fp => (ht s H C cl fp).r) (fun s H C cl fp => (he s H C cl fp).r) hs) fun σ H Q h => lcm_readsL hw h⟩
theorem lcm_readsE {m : Bool} {vs : List Nat} (hw : ∀ i, i ∈ ws → i ∈ vs) {σ : L2.St} {H : Hp} {Q : VK} (h : RE τ X.K X.mg W (eLcM m enumD f g t e vs) σ H Q) :
    tLc (jEn X.K (RA τ X.K X.mg W (aCons f aNil))) (RG τ X.K X.mg g ws) (RT τ X.K X.mg W0 t) (RE τ X.K X.mg W0 e) vs σ H Q := by
  obtain ⟨φ, F, ρ, S, gs, sl, p⟩ := h
  refine ⟨φ, F, ρ, S, gs, sl, ?_⟩
  unfold aCons aNil
  unfold eLcM at p
  have q2 : Post τ X.K X.mg (fun c od H' => W c od σ H') S.length φ F H Q (((f ρ S).bind fun v S1 => Res.ok [v] S1).bind fun us S1 => match us with
    | [v] => match v with
      | .loc k => match S1[k]? with
        | some (.lst ds) => (lcLM k ds g t e (wipeE ρ vs) (enumD ds) [] S1).bind fun acc S2 => mkL m acc S2
        | _ => .bad
      | _ => .bad
    | _ => .bad) := by
    cases e : f ρ S <;> (rw [e] at p; exact p)
  refine PostG.bind gs q2 fun φ1 F1 H1 S1 us xs nw1 r1 p1 => ?_
  cases us with
  | nil => exact p1.elim
  | cons v us =>
    cases us with
    | cons _ _ => exact p1.elim
    | nil =>
      obtain ⟨x, rfl, rx⟩ := reps1 r1
      obtain ⟨k, ds, rfl, hk, p1⟩ := PostG.loc p1
      obtain ⟨_, rfl⟩ := rx
      obtain ⟨_, ys, hx, _⟩ := nw1.sg.obj k _ hk
      exact ⟨_, rfl, .inl ⟨⟨ys, .inl (.inl hx)⟩, lcm_core hw nw1.sg (sl.now nw1) hk ml_enum p1⟩⟩
theorem de_lcE {c : Expr} {p cpos tpos : Pos} {elts : List Expr} {kk : Nat} {k : Nat} (m : Bool) (cc : Cc X W k) (hgl : Gl X "enumerate") (hm : X.mg "enumerate" = none) (hi : DA τ X W [c] (aCons f aNil)) (ok : BlkOk X.N X.env.scope scope own) (hg : ∀ (s : Shared) (H : Hp) (C : Addr) (cl : List (Str × Addr)) (fp : List Addr), DG τ (X.blk s H scope (compEnvC scope cl C X.env) fp) (.Tuple elts kk tpos) g ws)
    (ht : ∀ (s : Shared) (H : Hp) (C : Addr) (cl : List (Str × Addr)) (fp : List Addr), DTs τ (X.blk s H scope (compEnvC scope cl C X.env) fp) W0 ifs t) (he : ∀ (s : Shared) (H : Hp) (C : Addr) (cl : List (Str × Addr)) (fp : List Addr), DE τ (X.blk s H scope (compEnvC scope cl C X.env) fp) W0 elt e)
    (hw : ∀ i, i ∈ ws → i ∈ own.map (·.2) := by decide) (hst : starEach [c] X.env = [(false, eval c X.env)] := by rfl) (hs : ∀ x, foldedSetIterable (.Call (.Name "enumerate" p) [c] [] cpos) X.env x = pure x := by intro _; rfl) : DE τ X W (.ListComp elt [⟨.Tuple elts kk tpos, .Call (.Name "enumerate" p) [c] [] cpos, ifs, 0⟩] scope pos) (eLcM m enumD f g t e (own.map (·.2))) :=
  ⟨PE.mono (pe_lc cc.calm cc.nd (pi_enA hgl hm hi.r hst) ok (fun s H C cl fp => (hg s H C cl fp).r) (fun s H C cl fp => (ht s H C cl fp).r) (fun s H C cl fp => (he s H C cl fp).r) hs) fun σ H Q h => lcm_readsE hw h⟩
end
def IterK (k : Bool) (h : Heap) (it a : Addr) (i : Nat) : Prop := if k = true then h.IsListIter it a i else h.IsTupleIter it a i
def SeqK (k : Bool) (h : Heap) (a : Addr) (xs : Array Value) : Prop := if k = true then h.IsList a xs else h.IsTuple a xs
def SqK (K : PySem.W.Frag) (k : Bool) (H : Hp) (a : Addr) (xs : List V) : Prop := if k = true then SqL K H a xs else SqT K H a xs
theorem IterK.obj {k : Bool} {h : Heap} {it a : Addr} {i : Nat} (q : IterK k h it a i) : ∃ o, h.get? it = some o ∧ ∀ v, o.data ≠ .cell v := by
  cases k with
  | true => obtain ⟨o, e, _, d⟩ := (q : h.IsListIter it a i); exact ⟨o, e, fun v q => by rw [d] at q; cases q⟩
  | false => obtain ⟨o, e, _, d⟩ := (q : h.IsTupleIter it a i); exact ⟨o, e, fun v q => by rw [d] at q; cases q⟩
theorem IterK.at {k : Bool} {h h' : Heap} {it a : Addr} {i : Nat} (q : IterK k h it a i) (f : ∀ o, h.get? it = some o → h'.get? it = some o) : IterK k h' it a i := by
  cases k with
  | true => exact (Heap.IsListIter.at (h := h) q f : h'.IsListIter it a i)
  | false => exact (Heap.IsTupleIter.at (h := h) q f : h'.IsTupleIter it a i)
theorem drawsK {prog : Program} {w : World} {A : Around} (k : Bool) (hh : A.handled = none) (it l : Addr) (hne : l ≠ it) (items : Array Value) :
    Draws prog w A it [it, l] items.size (fun i v => items[i]? = some v) (fun i h => IterK k h it l i ∧ SeqK k h l items) := by
  cases k with
  | true => exact Draws.list hh it l hne items
  | false => exact Draws.tuple hh it l hne items
theorem Inv.sqK {X : Cx} {pins : List (Addr × Obj)} {σ : L2.St} {H : Hp} {s : Shared} (I : Inv X pins σ H s) {k : Bool} {a : Addr} {xs : List V} (q : SqK X.K k H a xs) : ∃ its : List Value, Vals xs its ∧ SeqK k s.heap a its.toArray := by
  cases k with
  | true => obtain ⟨its, rv, p, _⟩ := I.list (show SqL X.K H a xs from q); exact ⟨its, rv, p.isList⟩
  | false => obtain ⟨its, rv, p, _⟩ := I.tuple (show SqT X.K H a xs from q); exact ⟨its, rv, p⟩
theorem Inv.sqK_inj {X : Cx} {pins : List (Addr × Obj)} {σ : L2.St} {H : Hp} {s : Shared} (I : Inv X pins σ H s) {k : Bool} {a : Addr} {xs ys : List V} (q : SqK X.K k H a xs) (q2 : SqK X.K k H a ys) : xs = ys := by
  cases k with
  | true => exact I.list_inj (show SqL X.K H a xs from q) q2
  | false => exact I.tuple_inj (show SqT X.K H a xs from q) q2
def ItzM (K : PySem.W.Frag) (k1 k2 : Bool) (a b : Addr) : It :=
  ⟨fun i H => ∃ (xs ys : List V) (x y : V), SqK K k1 H a xs ∧ SqK K k2 H b ys ∧ xs[i]? = some x ∧ ys[i]? = some y,
    fun i H v H' => ∃ T x y, v = .ref T ∧ H T = none ∧ H' = upd H T (.tup [x, y]) ∧ (∀ xs, SqK K k1 H a xs → xs[i]? = some x) ∧ ∀ ys, SqK K k2 H b ys → ys[i]? = some y,
    fun i H => ∃ xs ys : List V, SqK K k1 H a xs ∧ SqK K k2 H b ys ∧ i ≤ xs.length ∧ i ≤ ys.length ∧ (i = xs.length ∨ i = ys.length)⟩
theorem zipSep {a b z TI TO i1 i2 : Addr} (D : ZipApart z TI TO i1 i2 a b) : ZipSep2 z TI TO i1 i2 [i1, a] [i2, b] := by
  refine ⟨D.TIz, D.TOz, D.TITO, D.TIi1, by simp, ?_, ?_, D.TIi2, by simp, ?_, ?_, ?_, ?_⟩
  · simp [Ne.symm D.i1z, Ne.symm D.l1z]
  · simp [D.TOi1, Ne.symm D.l1TO]
  · simp [Ne.symm D.i2z, Ne.symm D.l2z]
  · simp [D.TOi2, Ne.symm D.l2TO]
  · simp [D.i12, Ne.symm D.l2i1]
  · simp [Ne.symm D.i12, Ne.symm D.l1i2]
theorem turn_zipM {P : Program} {w : World} {K : PySem.W.Frag} {elts : List Expr} {kk : Nat} {tpos : Pos} {k1 k2 : Bool} {a b z TI TO i1 i2 : Addr} (D : ZipApart z TI TO i1 i2 a b) :
    Turn P w K (.Tuple elts kk tpos) (ItzM K k1 k2 a b) [z, TI, TO, i1, i2] z (fun i h => IsZip h z TI TO .none ∧ IsPair h TI (.ref i1) (.ref i2) ∧ (∃ x y, IsPair h TO x y) ∧ IterK k1 h i1 a i ∧ IterK k2 h i2 b i) where
  mem := by simp
  obj := fun i h st c hc => by
    obtain ⟨hz, hTI, ⟨x, y, hTO⟩, h1, h2⟩ := st
    have e' : c = z ∨ c = TI ∨ c = TO ∨ c = i1 ∨ c = i2 := by simpa using hc
    rcases e' with q | q | q | q | q
    · rw [q]; exact ⟨_, hz, fun v q => nomatch q⟩
    · rw [q]; exact ⟨_, hTI, fun v q => nomatch q⟩
    · rw [q]; exact ⟨_, hTO, fun v q => nomatch q⟩
    · rw [q]; exact h1.obj
    · rw [q]; exact h2.obj
  keep := fun i h h' st k => by
    obtain ⟨hz, hTI, ⟨x, y, hTO⟩, h1, h2⟩ := st
    exact ⟨k z (by simp) _ hz, k TI (by simp) _ hTI, ⟨x, y, k TO (by simp) _ hTO⟩, h1.at fun o q => k i1 (by simp) o q, h2.at fun o q => k i2 (by simp) o q⟩
  item := by
    intro X hP hw hK hc i pins s σ H E I hf st hg
    subst hP hw hK
    obtain ⟨hz, hTI, ⟨x0, y0, hTO⟩, h1, h2⟩ := st
    obtain ⟨xs, ys, x, y, hqx, hqy, hx, hy⟩ := hg
    obtain ⟨its, rv, p⟩ := Inv.sqK I hqx
    obtain ⟨its2, rv2, p2⟩ := Inv.sqK I hqy
    obtain ⟨u, hu, ru⟩ := rv.get hx
    obtain ⟨u2, hu2, ru2⟩ := rv2.get hy
    have hzl : z < s.heap.objs.size := Heap.lt_size hz
    have hh : X.A.in1.handled = none := I.ok.hd hc
    have lt1 : i < its.toArray.size := by have := (List.getElem?_eq_some_iff.mp hu).1; simpa using this
    have lt2 : i < its2.toArray.size := by have := (List.getElem?_eq_some_iff.mp hu2).1; simpa using this
    refine wpAny_pyNext_zipD2_item (zipSep D) (drawsK (A := X.A.in1) k1 hh i1 a D.l1i1 its.toArray) (drawsK (A := X.A.in1) k2 hh i2 b D.l2i2 its2.toArray) hz hTI hTO ⟨h1, p⟩ ⟨h2, p2⟩ lt1 lt2 fun v1 v2 h' tk y1 y2 z' TO' h1' h2' hT hsz hk => ?_
    have e1 : v1 = u := by rw [show its.toArray[i]? = some u by simpa using hu] at y1; cases y1; rfl
    have e2 : v2 = u2 := by rw [show its2.toArray[i]? = some u2 by simpa using hu2] at y2; cases y2; rfl
    subst e1 e2
    refine ⟨_, rfl, wpAny_letOwnedTupleGo_zip (s := { s with heap := h', toks := tk }) z' fun h'' z'' sb => ?_⟩
    have hT2 : h''.get? s.heap.objs.size = some { cls := .type "tuple", data := .seq #[v1, v2] } := (sb.2 _ (Nat.ne_of_gt hzl)).trans hT
    have new : ObjOk X.prog X.w (upd H s.heap.objs.size (.tup [x, y])) h'' s.heap.objs.size (.tup [x, y]) :=
      ⟨by show 2 ≤ sizeLine; decide, [v1, v2], .cons ru (.cons ru2 .nil), ⟨_, hT2, rfl, _, rfl⟩⟩
    have I1 : Inv X pins σ (upd H s.heap.objs.size (.tup [x, y])) { s with heap := h'', toks := tk } :=
      I.turnedNew (t' := tk) (ch := [z, TI, TO, i1, i2]) (fun c o hb q => (sb.2 c (fun q' => hb (by simp [q']))).trans (hk c o (fun q' => hb (by simp [q'])) (fun q' => hb (by simp [q'])) (fun q' => hb (by simp [q'])) (fun q' => hb (by simp [q'])) q)) hf (Nat.le_refl _) new
    refine ⟨.ref s.heap.objs.size, _, I1, rfl, ⟨_, x, y, rfl, I.hok.fresh (Nat.le_refl _), rfl, fun l hl => by rw [Inv.sqK_inj I hl hqx]; exact hx, fun l hl => by rw [Inv.sqK_inj I hl hqy]; exact hy⟩, ⟨z'', ?_, ⟨v1, v2, ?_⟩, ?_, ?_⟩, fun c hcm => ?_⟩
    · exact (sb.2 _ D.TIz).trans (hk _ _ D.TIz D.TITO D.TIi1 D.TIi2 hTI)
    · exact (sb.2 _ D.TOz).trans TO'
    · exact h1'.1.at fun o q => (sb.2 _ D.i1z).trans q
    · exact h2'.1.at fun o q => (sb.2 _ D.i2z).trans q
    · have hlt : c < s.heap.objs.size := by
        have e' : c = z ∨ c = TI ∨ c = TO ∨ c = i1 ∨ c = i2 := by simpa using hcm
        rcases e' with q | q | q | q | q
        · rw [q]; exact hzl
        · rw [q]; exact Heap.lt_size hTI
        · rw [q]; exact Heap.lt_size hTO
        · rw [q]; obtain ⟨_, e1, _⟩ := h1.obj; exact Heap.lt_size e1
        · rw [q]; obtain ⟨_, e2, _⟩ := h2.obj; exact Heap.lt_size e2
      rw [upd_ne (Nat.ne_of_lt hlt)]
      exact (hf c hcm).1
  done := by
    intro X hP hw hK hc i pins s σ H E I hf st hg
    subst hP hw hK
    obtain ⟨hz, hTI, ⟨x0, y0, hTO⟩, h1, h2⟩ := st
    obtain ⟨xs, ys, hqx, hqy, le1, le2, hend⟩ := hg
    obtain ⟨its, rv, p⟩ := Inv.sqK I hqx
    obtain ⟨its2, rv2, p2⟩ := Inv.sqK I hqy
    have hh : X.A.in1.handled = none := I.ok.hd hc
    have l1 := rv.length
    have l2 := rv2.length
    exact wpAny_pyNext_zipD2_end (zipSep D) (drawsK (A := X.A.in1) k1 hh i1 a D.l1i1 its.toArray) (drawsK (A := X.A.in1) k2 hh i2 b D.l2i2 its2.toArray) hz hTI hTO ⟨h1, p⟩ ⟨h2, p2⟩ (by simp; omega) (by simp; omega) (by simp; omega) fun h' tk hk => ⟨rfl, I.turnedL (t' := tk) (ch := [z, TI, TO, i1, i2]) (fun c o hb q =>
      hk c o (fun q' => hb (by simp [q'])) (fun q' => hb (by simp [q'])) (fun q' => hb (by simp [q'])) (fun q' => hb (by simp [q'])) q) hf⟩
  self := fun A i s Q E st h => wpAny_pyIter_zip st.1 h
abbrev itO (k : Bool) (l : Addr) : Obj := if k = true then { cls := .type "list_iterator", data := .fields #[.ref l, .int 0 0] } else { cls := .type "tuple_iterator", data := .fields #[.ref l, .int 0 0] }
abbrev zM1 (h : Heap) (k1 : Bool) (l1 : Addr) : Heap := h.push (itO k1 l1)
abbrev zM2 (h : Heap) (k1 k2 : Bool) (l1 l2 : Addr) : Heap := (zM1 h k1 l1).push (itO k2 l2)
abbrev zM3 (h : Heap) (k1 k2 : Bool) (l1 l2 : Addr) : Heap := (zM2 h k1 k2 l1 l2).push { cls := .type "tuple", data := .seq #[.ref h.objs.size, .ref (zM1 h k1 l1).objs.size] }
abbrev zM4 (h : Heap) (k1 k2 : Bool) (l1 l2 : Addr) : Heap := (zM3 h k1 k2 l1 l2).push { cls := .type "tuple", data := .seq #[.none, .none] }
abbrev zM5 (h : Heap) (k1 k2 : Bool) (l1 l2 : Addr) : Heap := (zM4 h k1 k2 l1 l2).push { cls := .type "zip", data := .fields #[.none, .bool false, .bool false, .ref (zM2 h k1 k2 l1 l2).objs.size, .ref (zM3 h k1 k2 l1 l2).objs.size] }
theorem meets_zLT (l1 l2 : Addr) (xs ys : Array Value) :
    Meets (Builtin.«zip.__new__» ⟨[.type "zip", .ref l1, .ref l2], []⟩) (fun _ R s => s.heap.IsList l1 xs ∧ s.heap.IsTuple l2 ys ∧
      R (.ok (.ret (.ref (zM4 s.heap true false l1 l2).objs.size))) { s with heap := zM5 s.heap true false l1 l2 }) :=
  .of_wp fun prog w A R s h => by
    obtain ⟨hp, g, d, tk, os⟩ := s; obtain ⟨hl1, hl2, h⟩ := h
    have hsub := sub_zip
    have hL1 : Heap.IsList (Shared.heap ⟨hp, g, d, tk, os⟩) l1 xs := hl1
    have hL2 : Heap.IsTuple (Shared.heap ⟨hp.push { cls := .type "list_iterator", data := .fields #[.ref l1, .int 0 0] }, g, d, tk, os⟩) l2 ys := Heap.IsTuple.push hl2 _
    wp_walk using wpAny_pyIter_list hL1, wpAny_pyIter_tuple hL2
    exact ⟨_, rfl, h⟩
theorem meets_zTL (l1 l2 : Addr) (xs ys : Array Value) :
    Meets (Builtin.«zip.__new__» ⟨[.type "zip", .ref l1, .ref l2], []⟩) (fun _ R s => s.heap.IsTuple l1 xs ∧ s.heap.IsList l2 ys ∧
      R (.ok (.ret (.ref (zM4 s.heap false true l1 l2).objs.size))) { s with heap := zM5 s.heap false true l1 l2 }) :=
  .of_wp fun prog w A R s h => by
    obtain ⟨hp, g, d, tk, os⟩ := s; obtain ⟨hl1, hl2, h⟩ := h
    have hsub := sub_zip
    have hL1 : Heap.IsTuple (Shared.heap ⟨hp, g, d, tk, os⟩) l1 xs := hl1
    have hL2 : Heap.IsList (Shared.heap ⟨hp.push { cls := .type "tuple_iterator", data := .fields #[.ref l1, .int 0 0] }, g, d, tk, os⟩) l2 ys := Heap.IsList.push hl2 _
    wp_walk using wpAny_pyIter_tuple hL1, wpAny_pyIter_list hL2
    exact ⟨_, rfl, h⟩
section
variable {prog : Program} {w : World} {A : Around} {E : Value → Shared → Prop} {s : Shared}
theorem itO_iter {k : Bool} {h : Heap} {it l : Addr} (g : h.get? it = some (itO k l)) : IterK k h it l 0 := by
  cases k with
  | true => exact ⟨_, g, rfl, rfl⟩
  | false => exact ⟨_, g, rfl, rfl⟩
theorem itO_free (k : Bool) (l : Addr) : (itO k l).isFreed = false := by cases k <;> rfl
theorem call_zM {k1 k2 : Bool} {l1 l2 : Addr} {xs ys : Array Value} {Q : Value → Shared → Prop} (hm : Meets (Builtin.«zip.__new__» ⟨[.type "zip", .ref l1, .ref l2], []⟩) (fun _ R s => SeqK k1 s.heap l1 xs ∧ SeqK k2 s.heap l2 ys ∧
      R (.ok (.ret (.ref (zM4 s.heap k1 k2 l1 l2).objs.size))) { s with heap := zM5 s.heap k1 k2 l1 l2 })) (hl1 : SeqK k1 s.heap l1 xs) (hl2 : SeqK k2 s.heap l2 ys)
    (h : ∀ h', IsZip h' (s.heap.objs.size + 4) (s.heap.objs.size + 2) (s.heap.objs.size + 3) .none → IsPair h' (s.heap.objs.size + 2) (.ref s.heap.objs.size) (.ref (s.heap.objs.size + 1)) →
      IsPair h' (s.heap.objs.size + 3) .none .none → IterK k1 h' s.heap.objs.size l1 0 → IterK k2 h' (s.heap.objs.size + 1) l2 0 → h'.objs.size = s.heap.objs.size + 5 →
      (∀ c o, s.heap.get? c = some o → h'.get? c = some o) → Q (.ref (s.heap.objs.size + 4)) { s with heap := h' }) :
    wpAny (model prog w) A (call (.type "zip") [.ref l1, .ref l2]) Q E s := by
  refine callType_new F.called_zip (by decide) (F.typeCall_zip_2 _ _) (F.newCall_zip_2 _ _) (fun obj => F.args_object_init_3 obj _ _) F.entry_zip_new
    hm ⟨hl1, hl2, ?_⟩
  have z1 : (zM1 s.heap k1 l1).objs.size = s.heap.objs.size + 1 := Heap.size_push ..
  have z2 : (zM2 s.heap k1 k2 l1 l2).objs.size = s.heap.objs.size + 2 := by rw [Heap.size_push, z1]
  have z3 : (zM3 s.heap k1 k2 l1 l2).objs.size = s.heap.objs.size + 3 := by rw [Heap.size_push, z2]
  have z4 : (zM4 s.heap k1 k2 l1 l2).objs.size = s.heap.objs.size + 4 := by rw [Heap.size_push, z3]
  have z5 : (zM5 s.heap k1 k2 l1 l2).objs.size = s.heap.objs.size + 5 := by rw [Heap.size_push, z4]
  have g5 : (zM5 s.heap k1 k2 l1 l2).get? (zM4 s.heap k1 k2 l1 l2).objs.size = some _ := Heap.get?_push_size _ rfl
  have g4 : (zM5 s.heap k1 k2 l1 l2).get? (zM3 s.heap k1 k2 l1 l2).objs.size = some _ := Heap.get?_push_of_some _ (Heap.get?_push_size _ rfl)
  have g3 : (zM5 s.heap k1 k2 l1 l2).get? (zM2 s.heap k1 k2 l1 l2).objs.size = some _ := Heap.get?_push_of_some _ (Heap.get?_push_of_some _ (Heap.get?_push_size _ rfl))
  have g2 : (zM5 s.heap k1 k2 l1 l2).get? (zM1 s.heap k1 l1).objs.size = some _ := Heap.get?_push_of_some _ (Heap.get?_push_of_some _ (Heap.get?_push_of_some _ (Heap.get?_push_size _ (itO_free _ _))))
  have g1 : (zM5 s.heap k1 k2 l1 l2).get? s.heap.objs.size = some _ := Heap.get?_push_of_some _ (Heap.get?_push_of_some _ (Heap.get?_push_of_some _ (Heap.get?_push_of_some _ (Heap.get?_push_size _ (itO_free _ _)))))
  show _ ∧ _
  rw [z2, z3, z4] at g5
  rw [z1, z2] at g3
  rw [z3] at g4
  rw [z1] at g2
  rw [z4]
  exact ⟨⟨_, g5, rfl⟩, h _ g5 g3 g4 (itO_iter g1) (itO_iter g2) z5 fun c o x =>
    Heap.get?_push_of_some _ (Heap.get?_push_of_some _ (Heap.get?_push_of_some _ (Heap.get?_push_of_some _ (Heap.get?_push_of_some _ x))))⟩
end
def jZipX (K : PySem.W.Frag) (ta : TA) : TI := fun σ H R => ta σ H fun vs H1 => ∃ a b xs ys, vs = [.ref a, .ref b] ∧ ((SqL K H1 a xs ∧ SqL K H1 b ys ∧ R (Itz K a b) H1) ∨ (SqT K H1 a xs ∧ SqT K H1 b ys ∧ R (RZ.ItzT K a b) H1) ∨ (SqL K H1 a xs ∧ SqT K H1 b ys ∧ R (ItzM K true false a b) H1) ∨ (SqT K H1 a xs ∧ SqL K H1 b ys ∧ R (ItzM K false true a b) H1))
theorem pi_zipX {X : Cx} {e e2 : Expr} {ta : TA} {p pos tpos : Pos} {elts : List Expr} {kk : Nat} (hg : Gl X "zip") (hm : X.mg "zip" = none) (ha : PA X [e, e2] ta)
    (hs : starEach [e, e2] X.env = (false, eval e X.env) :: starEach [e2] X.env := by rfl) (hpl : (backTo pos (starEach [e2] X.env)).any (·.1) = false := by rfl) :
    PI X (.Tuple elts kk tpos) (.Call (.Name "zip" p) [e, e2] [] pos) (jZipX X.K ta) := by
  refine ⟨fun pins s σ H R I h => ?_⟩
  refine Call_ (ld_blt I hg hm PyProof.Rows.boot_zip (PyProof.Rows.callWith_type1 (thn (ha.run pos pins s σ H _ I h) fun us s1 ⟨vs, H1, I1, r1, q1⟩ => ?_) hs hpl))
  obtain ⟨a, b, xs, ys, ex, q1⟩ := q1
  subst ex
  cases r1 with
  | cons r rr =>
    cases rr with
    | cons r' rr =>
      cases rr
      cases r
      cases r'
      have fresh5 : ∀ c, c ∈ [s1.heap.objs.size + 4, s1.heap.objs.size + 2, s1.heap.objs.size + 3, s1.heap.objs.size, s1.heap.objs.size + 1] → FpOk X pins H1 c := fun c hcm => by
        have e' : c = s1.heap.objs.size + 4 ∨ c = s1.heap.objs.size + 2 ∨ c = s1.heap.objs.size + 3 ∨ c = s1.heap.objs.size ∨ c = s1.heap.objs.size + 1 := by simpa using hcm
        have hle : s1.heap.objs.size ≤ c := by
          rcases e' with z | z | z | z | z
          · rw [z]; exact Nat.le_add_right _ _
          · rw [z]; exact Nat.le_add_right _ _
          · rw [z]; exact Nat.le_add_right _ _
          · rw [z]; exact Nat.le_refl _
          · rw [z]; exact Nat.le_add_right _ _
        exact I1.fpOk hle (I1.hok.fresh hle)
      rcases q1 with ⟨hqx, hqy, q⟩ | ⟨hqx, hqy, q⟩ | ⟨hqx, hqy, q⟩ | ⟨hqx, hqy, q⟩
      · obtain ⟨its, rv, p1, _⟩ := I1.list hqx
        obtain ⟨its2, rv2, p2, _⟩ := I1.list hqy
        refine call_zip_2 p1.isList p2.isList fun h' hz hTI hTO h1 h2 hsz hk => wpAny_pyIter_zip hz ?_
        have I2 : Inv X pins σ H1 { s1 with heap := h' } := I1.kept (t' := s1.toks) hk
        exact ⟨s1.heap.objs.size + 4, [s1.heap.objs.size + 4, s1.heap.objs.size + 2, s1.heap.objs.size + 3, s1.heap.objs.size, s1.heap.objs.size + 1], _, _, H1, rfl, I2, turn_zip (PySem.W.ktu_apart s1.heap.objs.size a b p1.lt p2.lt), ⟨hz, hTI, ⟨_, _, hTO⟩, h1, h2⟩, fresh5, q⟩
      · obtain ⟨its, rv, p1, _⟩ := I1.tuple hqx
        obtain ⟨its2, rv2, p2, _⟩ := I1.tuple hqy
        obtain ⟨o1, ho1, _⟩ := id p1
        obtain ⟨o2, ho2, _⟩ := id p2
        refine RZ.call_zipT (show s1.heap.IsTuple a its.toArray from p1) (show s1.heap.IsTuple b its2.toArray from p2) fun h' hz hTI hTO h1 h2 hsz hk => wpAny_pyIter_zip hz ?_
        have I2 : Inv X pins σ H1 { s1 with heap := h' } := I1.kept (t' := s1.toks) hk
        exact ⟨s1.heap.objs.size + 4, [s1.heap.objs.size + 4, s1.heap.objs.size + 2, s1.heap.objs.size + 3, s1.heap.objs.size, s1.heap.objs.size + 1], _, _, H1, rfl, I2, RZ.turn_zipT (PySem.W.ktu_apart s1.heap.objs.size a b (Heap.lt_size ho1) (Heap.lt_size ho2)), ⟨hz, hTI, ⟨_, _, hTO⟩, h1, h2⟩, fresh5, q⟩
      · obtain ⟨its, rv, p1, _⟩ := I1.list hqx
        obtain ⟨its2, rv2, p2, _⟩ := I1.tuple hqy
        obtain ⟨o2, ho2, _⟩ := id p2
        refine call_zM (k1 := true) (k2 := false) (meets_zLT a b its.toArray its2.toArray) p1.isList (show s1.heap.IsTuple b its2.toArray from p2) fun h' hz hTI hTO h1 h2 hsz hk => wpAny_pyIter_zip hz ?_
        have I2 : Inv X pins σ H1 { s1 with heap := h' } := I1.kept (t' := s1.toks) hk
        exact ⟨s1.heap.objs.size + 4, [s1.heap.objs.size + 4, s1.heap.objs.size + 2, s1.heap.objs.size + 3, s1.heap.objs.size, s1.heap.objs.size + 1], _, _, H1, rfl, I2, turn_zipM (PySem.W.ktu_apart s1.heap.objs.size a b p1.lt (Heap.lt_size ho2)), ⟨hz, hTI, ⟨_, _, hTO⟩, h1, h2⟩, fresh5, q⟩
      · obtain ⟨its, rv, p1, _⟩ := I1.tuple hqx
        obtain ⟨its2, rv2, p2, _⟩ := I1.list hqy
        obtain ⟨o1, ho1, _⟩ := id p1
        refine call_zM (k1 := false) (k2 := true) (meets_zTL a b its.toArray its2.toArray) (show s1.heap.IsTuple a its.toArray from p1) p2.isList fun h' hz hTI hTO h1 h2 hsz hk => wpAny_pyIter_zip hz ?_
        have I2 : Inv X pins σ H1 { s1 with heap := h' } := I1.kept (t' := s1.toks) hk
        exact ⟨s1.heap.objs.size + 4, [s1.heap.objs.size + 4, s1.heap.objs.size + 2, s1.heap.objs.size + 3, s1.heap.objs.size, s1.heap.objs.size + 1], _, _, H1, rfl, I2, turn_zipM (PySem.W.ktu_apart s1.heap.objs.size a b (Heap.lt_size ho1) p2.lt), ⟨hz, hTI, ⟨_, _, hTO⟩, h1, h2⟩, fresh5, q⟩
def iZipX (f : Av) : Iv := fun ρ S => (f ρ S).bind fun vs S1 => (frs vs S1).bind fun ds S2 => match ds with
  | [.list xs, .list ys] => .ok (zipD xs ys) S2
  | [.tuple xs, .tuple ys] => .ok (zipD xs ys) S2
  | [.list xs, .tuple ys] => .ok (zipD xs ys) S2
  | [.tuple xs, .list ys] => .ok (zipD xs ys) S2
  | _ => .bad
section
variable {K : PySem.W.Frag} {F : Addr → Prop} {H : Hp} {a b : Addr} {xs ys : List V} {ds es : List D}
theorem yl_zipM {k1 k2 : Bool} (at_ : ∀ H', Agree F H H' → SqK K k1 H' a xs) (h2 : FzAll K F H xs ds) (bt_ : ∀ H', Agree F H H' → SqK K k2 H' b ys) (h4 : FzAll K F H ys es) : Yl K F H (ItzM K k1 k2 a b) (zipD ds es) := by
  refine ⟨fun i H' hi g => ?_, fun H' g => ⟨xs, ys, at_ H' g, bt_ H' g, by have := h2.len; have := h4.len; rw [zipD_len]; omega, by have := h2.len; have := h4.len; rw [zipD_len]; omega, by have := h2.len; have := h4.len; rw [zipD_len]; omega⟩, fun i H' v H'' hi g y => ?_⟩ <;> rw [zipD_len] at hi
  · obtain ⟨v, hv, _⟩ := h2.get (List.getElem?_eq_getElem (by omega : i < ds.length))
    obtain ⟨u, hu, _⟩ := h4.get (List.getElem?_eq_getElem (by omega : i < es.length))
    exact ⟨xs, ys, v, u, at_ H' g, bt_ H' g, hv, hu⟩
  · obtain ⟨v', hv, fv⟩ := h2.get (List.getElem?_eq_getElem (by omega : i < ds.length))
    obtain ⟨u', hu, fu⟩ := h4.get (List.getElem?_eq_getElem (by omega : i < es.length))
    obtain ⟨T, x, y, e1, e2, e3, e4, e5⟩ := y
    have e := e4 xs (at_ H' g)
    rw [hv] at e
    cases e
    have e := e5 ys (bt_ H' g)
    rw [hu] at e
    cases e
    exact ⟨_, zipD_get (by omega) (by omega), .inr ⟨T, _, _, e1, e2, e3, rfl, .cons fv (.cons fu .nil)⟩⟩
end
section
variable {X : Cx} {W : WX} {c d : Expr} {p pos tpos : Pos} {elts : List Expr} {kk : Nat}
theorem di_zipX {fs : Av} (hg : Gl X "zip") (hm : X.mg "zip" = none) (h : DA τ X W [c, d] fs) (hs : starEach [c, d] X.env = (false, eval c X.env) :: starEach [d] X.env := by rfl) (hpl : (backTo pos (starEach [d] X.env)).any (·.1) = false := by rfl) : DI τ X W (.Tuple elts kk tpos) (.Call (.Name "zip" p) [c, d] [] pos) (iZipX fs) :=
  ⟨PI.mono (pi_zipX hg hm h.r hs hpl) fun σ H R ⟨φ, F, ρ, S, g, sl, q⟩ => by
    refine ⟨φ, F, ρ, S, g, sl, PostG.bind g q fun φ1 F1 H1 S1 vs xs nw1 r1 p1 => ?_⟩
    obtain ⟨φ2, F2, S2, ds, nw2, f2, p2⟩ := frs_ok (k := fun ds S2 => (match ds with
      | [.list xs, .list ys] => .ok (zipD xs ys) S2
      | [.tuple xs, .tuple ys] => .ok (zipD xs ys) S2
      | [.list xs, .tuple ys] => .ok (zipD xs ys) S2
      | [.tuple xs, .list ys] => .ok (zipD xs ys) S2
      | _ => .bad : Res (List D))) nw1.sg r1 p1
    have p3 := PostG.start nw1.sg nw2 p2
    split at p3
    · cases f2 with
      | cons fa t => cases t with
        | cons fb t => cases t with
          | nil => cases fa with
            | lst h1 h2 h3 => cases fb with
              | lst h4 h5 h6 => exact ⟨_, _, _, _, rfl, .inl ⟨.inl (.inl h2), .inl (.inl h5), p3 _ _ _ (.refl nw2.sg) _ (yl_zipL h1 h2 h3 h4 h5 h6)⟩⟩
    · cases f2 with
      | cons fa t => cases t with
        | cons fb t => cases t with
          | nil => cases fa with
            | tup h1 h2 => cases fb with
              | tup h4 h5 => exact ⟨_, _, _, _, rfl, .inr (.inl ⟨h1.sq, h4.sq, p3 _ _ _ (.refl nw2.sg) _ (yl_zipT h1 h2 h4 h5)⟩)⟩
    · cases f2 with
      | cons fa t => cases t with
        | cons fb t => cases t with
          | nil => cases fa with
            | lst h1 h2 h3 => cases fb with
              | tup h4 h5 => exact ⟨_, _, _, _, rfl, .inr (.inr (.inl ⟨.inl (.inl h2), h4.sq, p3 _ _ _ (.refl nw2.sg) _ (yl_zipM (fun H' g => .inl (.inl ((g _ h1).trans h2))) h3 (fun H' g => (h4.ext (fun _ h => h) g).sq) h5)⟩))⟩
    · cases f2 with
      | cons fa t => cases t with
        | cons fb t => cases t with
          | nil => cases fa with
            | tup h4 h5 => cases fb with
              | lst h1 h2 h3 => exact ⟨_, _, _, _, rfl, .inr (.inr (.inr ⟨h4.sq, .inl (.inl h2), p3 _ _ _ (.refl nw2.sg) _ (yl_zipM (fun H' g => (h4.ext (fun _ h => h) g).sq) h5 (fun H' g => .inl (.inl ((g _ h1).trans h2))) h3)⟩))⟩
    · exact p3.elim⟩
end
theorem mod_l {x y m : Int} (h : 0 < m) (h2 : m < 18446744073709551616) : mulOk (x % m) y = true := mulOk_l (by
  have a := Int.emod_nonneg x (by omega : m ≠ 0)
  have b := Int.emod_lt_of_pos x h
  omega)
theorem mod_r {x y m : Int} (h : 0 < m) (h2 : m < 18446744073709551616) : mulOk y (x % m) = true := mulOk_r (by
  have a := Int.emod_nonneg x (by omega : m ≠ 0)
  have b := Int.emod_lt_of_pos x h
  omega)
theorem num_l {x y : Int} (h : x.natAbs < 18446744073709551616) : mulOk x y = true := mulOk_l h
theorem num_r {x y : Int} (h : x.natAbs < 18446744073709551616) : mulOk y x = true := mulOk_r h
def isI : D → Bool
  | .int _ => true
  | _ => false
def inI (lo hi : Int) : D → Bool
  | .int i => decide (lo ≤ i ∧ i ≤ hi)
  | _ => false
theorem inI_not {lo hi : Int} {d : D} (h : isI d = false) : inI lo hi d = false := by
  cases d <;> first | rfl | cases h
theorem all_bools (bs : List Bool) (S : Store) : fAll [.d (.list (bs.map PyData.bool))] S = .ok (.d (.bool (bs.all id))) S := by
  have h1 : PyData.plainAll (bs.map PyData.bool) = true := by induction bs with
    | nil => rfl
    | cons n bs ih => simp [PyData.plainAll, PyData.plain, ih]
  have h2 : PyData.depthAll (bs.map PyData.bool) = 0 := by induction bs with
    | nil => rfl
    | cons n bs ih => simp [PyData.depthAll, PyData.depth, ih (by simpa [PyData.plainAll, PyData.plain] using h1)]
  have h3 : (bs.map PyData.bool).all fitsB = true := by simp [fitsB]
  have h4 : (bs.map PyData.bool).all PyData.truthy = bs.all id := by
    rw [List.all_map]
    congr 1
  simp [fAll, fSeq, seqOf, seqOk, h1, h2, h3, h4]
theorem lcL_flag {tg : Tg} {f : Ev} {ρ : Env} {S : Store} (p : D → Bool) (xs : List D) (h : ∀ x ∈ xs, ∃ ρ1, tg (.d x) ρ = some ρ1 ∧ f ρ1 S = .ok (.d (.bool (p x))) S) (hl : xs.length ≤ 1000) : lcL tg tYesD f ρ xs [] S = .ok ((xs.map p).map PyData.bool) S := by
  have e := lcL_all (tg := tg) (f := f) (ρ := ρ) (fun x => .bool (p x)) (S := S) xs [] h (by simpa using hl)
  rw [List.nil_append] at e
  rw [e]
  simp
theorem cut_tail (ds : List D) : cutD ds (some 1) none = ds.tail := by
  unfold cutD
  rw [HT.sIx_none, show HT.sIx ds.length 0 (some 1) = min 1 ds.length from HT.sIx_nat _ _ 1]
  cases ds with
  | nil => rfl
  | cons d ds => simp [Nat.min_eq_left]
theorem cut_head (ds : List D) : cutD ds none (some 1) = ds.take 1 := by
  unfold cutD
  rw [HT.sIx_none, show HT.sIx ds.length ds.length (some 1) = min 1 ds.length from HT.sIx_nat _ _ 1]
  cases ds with
  | nil => rfl
  | cons d ds => simp [Nat.min_eq_left]
theorem lcL_fm {α : Type} {tg : Tg} {t : Tv} {f : Ev} {ρ : Env} {S : Store} (dt : α → D) (p : α → Bool) (g : α → D) (xs : List α) (h : ∀ x ∈ xs, ∃ ρ1, tg (.d (dt x)) ρ = some ρ1 ∧ t ρ1 S = .ok (p x) S ∧ f ρ1 S = .ok (.d (g x)) S) (hl : xs.length ≤ 1000) : lcL tg t f ρ (xs.map dt) [] S = .ok ((xs.filter p).map g) S := by
  suffices H : ∀ (xs : List α) (acc : List D), (∀ x ∈ xs, ∃ ρ1, tg (.d (dt x)) ρ = some ρ1 ∧ t ρ1 S = .ok (p x) S ∧ f ρ1 S = .ok (.d (g x)) S) → acc.length + xs.length ≤ 1000 → lcL tg t f ρ (xs.map dt) acc S = .ok (acc ++ (xs.filter p).map g) S by
    have := H xs [] h (by simpa using hl)
    simpa using this
  intro xs
  induction xs with
  | nil => intro acc _ _; simp
  | cons x xs ih =>
    intro acc h hl
    obtain ⟨ρ1, e1, e2, e3⟩ := h x (by simp)
    have hl' : acc.length + (xs.length + 1) ≤ 1000 := hl
    have hs : acc.length < sizeLine := Nat.lt_of_lt_of_le (by omega) (line1000 (Nat.le_refl 1000))
    rw [List.map_cons]
    unfold lcL
    cases q : p x with
    | true =>
      have ih := ih (acc ++ [g x]) (fun y hy => h y (by simp [hy])) (by simp; omega)
      rw [q] at e2
      simp only [e1, e2, noX_ok, bind_ok, if_true, e3, fr_d, hs]
      rw [ih]
      simp [q]
    | false =>
      have ih := ih acc (fun y hy => h y (by simp [hy])) (by omega)
      rw [q] at e2
      simp only [e1, e2, noX_ok, bind_ok, Bool.false_eq_true, if_false]
      rw [ih]
      simp [q]
theorem any_bools (bs : List Bool) (S : Store) : fAny [.d (.list (bs.map PyData.bool))] S = .ok (.d (.bool (bs.any id))) S := by
  have h1 : PyData.plainAll (bs.map PyData.bool) = true := by induction bs with
    | nil => rfl
    | cons n bs ih => simp [PyData.plainAll, PyData.plain, ih]
  have h2 : PyData.depthAll (bs.map PyData.bool) = 0 := by induction bs with
    | nil => rfl
    | cons n bs ih => simp [PyData.depthAll, PyData.depth, ih (by simpa [PyData.plainAll, PyData.plain] using h1)]
  have h3 : (bs.map PyData.bool).all fitsB = true := by simp [fitsB]
  have h4 : (bs.map PyData.bool).any PyData.truthy = bs.any id := by
    rw [List.any_map]
    congr 1
  simp [fAny, fSeq, seqOf, seqOk, h1, h2, h3, h4]
theorem oEq_same {d : D} {S : Store} (h : shal d = true) : oEq (.d d) (.d d) S = .ok (.d (.bool true)) S := by
  have p : d.plain = true := by simp [shal] at h; exact h.1
  simp [oEq, h, eqv_refl d p]
theorem oNe_same {d : D} {S : Store} (h : shal d = true) : oNe (.d d) (.d d) S = .ok (.d (.bool false)) S := by
  have p : d.plain = true := by simp [shal] at h; exact h.1
  simp [oNe, h, eqv_refl d p]
theorem zip_map {α β : Type} (f : α → D) (g : β → D) (xs : List α) (ys : List β) : zipD (xs.map f) (ys.map g) = (List.zip xs ys).map fun p => .tuple [f p.1, g p.2] := by
  unfold zipD
  rw [List.zipWith_map, List.zip, List.map_zipWith]
theorem lcL_map {α : Type} {tg : Tg} {f : Ev} {ρ : Env} {S : Store} (dt : α → D) (g : α → D) (xs : List α) (h : ∀ x ∈ xs, ∃ ρ1, tg (.d (dt x)) ρ = some ρ1 ∧ f ρ1 S = .ok (.d (g x)) S) (hl : xs.length ≤ 1000) : lcL tg tYesD f ρ (xs.map dt) [] S = .ok (xs.map g) S := by
  suffices H : ∀ (xs : List α) (acc : List D), (∀ x ∈ xs, ∃ ρ1, tg (.d (dt x)) ρ = some ρ1 ∧ f ρ1 S = .ok (.d (g x)) S) → acc.length + xs.length ≤ 1000 → lcL tg tYesD f ρ (xs.map dt) acc S = .ok (acc ++ xs.map g) S by
    have := H xs [] h (by simpa using hl)
    simpa using this
  intro xs
  induction xs with
  | nil => intro acc _ _; simp
  | cons x xs ih =>
    intro acc h hl
    obtain ⟨ρ1, e1, e2⟩ := h x (by simp)
    have hl' : acc.length + (xs.length + 1) ≤ 1000 := hl
    have hs : acc.length < sizeLine := Nat.lt_of_lt_of_le (by omega) (line1000 (Nat.le_refl 1000))
    have ih := ih (acc ++ [g x]) (fun y hy => h y (by simp [hy])) (by simp; omega)
    rw [List.map_cons]
    unfold lcL
    simp only [e1, ap_tYesD, noX_ok, bind_ok, if_true, e2, fr_d, hs]
    rw [ih]
    simp
theorem zip_mem {ds : List D} {x : D} (h : x ∈ zipD ds ds) : ∃ d ∈ ds, x = .tuple [d, d] := by
  unfold zipD at h
  rw [List.zipWith_self] at h
  obtain ⟨d, hd, rfl⟩ := List.mem_map.mp h
  exact ⟨d, hd, rfl⟩
theorem all_true {n : Nat} {S : Store} (ds : List D) (h : ds = List.replicate n (.bool true)) : fAll [.d (.list ds)] S = .ok (.d (.bool true)) S := by
  have := all_bools (List.replicate n true) S
  rw [List.map_replicate, ← h] at this
  simpa using this
def mnL : List Int → Int
  | [] => 0
  | x :: xs => xs.foldl min x
def mxL : List Int → Int
  | [] => 0
  | x :: xs => xs.foldl max x
theorem fold_min_le : ∀ (xs : List Int) (a : Int), xs.foldl min a ≤ a ∧ (∀ x ∈ xs, xs.foldl min a ≤ x) ∧ (xs.foldl min a = a ∨ xs.foldl min a ∈ xs)
  | [], a => ⟨Int.le_refl _, by simp, .inl rfl⟩
  | y :: ys, a => by
    obtain ⟨h1, h2, h3⟩ := fold_min_le ys (min a y)
    rw [List.foldl_cons]
    refine ⟨by omega, fun x hx => ?_, ?_⟩
    · rcases List.mem_cons.mp hx with rfl | hx
      · omega
      · exact h2 x hx
    · rcases h3 with h3 | h3
      · by_cases z : a ≤ y
        · left; omega
        · right; rw [h3, show min a y = y by omega]; exact List.mem_cons_self
      · right; exact List.mem_cons_of_mem _ h3
theorem fold_max_le : ∀ (xs : List Int) (a : Int), a ≤ xs.foldl max a ∧ (∀ x ∈ xs, x ≤ xs.foldl max a) ∧ (xs.foldl max a = a ∨ xs.foldl max a ∈ xs)
  | [], a => ⟨Int.le_refl _, by simp, .inl rfl⟩
  | y :: ys, a => by
    obtain ⟨h1, h2, h3⟩ := fold_max_le ys (max a y)
    rw [List.foldl_cons]
    refine ⟨by omega, fun x hx => ?_, ?_⟩
    · rcases List.mem_cons.mp hx with rfl | hx
      · omega
      · exact h2 x hx
    · rcases h3 with h3 | h3
      · by_cases z : y ≤ a
        · left; omega
        · right; rw [h3, show max a y = y by omega]; exact List.mem_cons_self
      · right; exact List.mem_cons_of_mem _ h3
theorem mn_le {F : List Int} {x : Int} (h : x ∈ F) : mnL F ≤ x := by
  cases F with
  | nil => cases h
  | cons y ys =>
    obtain ⟨h1, h2, _⟩ := fold_min_le ys y
    rcases List.mem_cons.mp h with rfl | h
    · exact h1
    · exact h2 x h
theorem mn_mem {F : List Int} (h : F ≠ []) : mnL F ∈ F := by
  cases F with
  | nil => exact absurd rfl h
  | cons y ys =>
    obtain ⟨_, _, h3⟩ := fold_min_le ys y
    rcases h3 with h3 | h3
    · show ys.foldl min y ∈ _; rw [h3]; exact List.mem_cons_self
    · exact List.mem_cons_of_mem _ h3
theorem le_mx {F : List Int} {x : Int} (h : x ∈ F) : x ≤ mxL F := by
  cases F with
  | nil => cases h
  | cons y ys =>
    obtain ⟨h1, h2, _⟩ := fold_max_le ys y
    rcases List.mem_cons.mp h with rfl | h
    · exact h1
    · exact h2 x h
theorem mx_mem {F : List Int} (h : F ≠ []) : mxL F ∈ F := by
  cases F with
  | nil => exact absurd rfl h
  | cons y ys =>
    obtain ⟨_, _, h3⟩ := fold_max_le ys y
    rcases h3 with h3 | h3
    · show ys.foldl max y ∈ _; rw [h3]; exact List.mem_cons_self
    · exact List.mem_cons_of_mem _ h3
def atN (F : List Int) (i : Nat) : Int := F.getD i 0
theorem atN_lt {F : List Int} {i : Nat} (h : i < F.length) : atN F i = F[i] := by simp [atN, h]
theorem atN_mem {F : List Int} {i : Nat} (h : i < F.length) : atN F i ∈ F := by rw [atN_lt h]; exact List.getElem_mem h
def iD (F : List Int) : List D := F.map PyData.int
theorem alike_ints (ns : List Int) : alikeOk (ns.map PyData.int) = true := by
  simp [alikeOk, PySem.W.alike, isNone]
theorem plain_ints (ns : List Int) : PyData.plainAll (ns.map PyData.int) = true ∧ PyData.depthAll (ns.map PyData.int) = 0 := by
  induction ns with
  | nil => exact ⟨rfl, rfl⟩
  | cons n ns ih => simp [PyData.plainAll, PyData.plain, PyData.depthAll, PyData.depth, ih.1, ih.2]
theorem seqok_ints (ns : List Int) : seqOk (ns.map PyData.int) = true := by
  have p := plain_ints ns
  unfold seqOk
  rw [p.1, p.2]
  rfl
theorem max_of {v : Vl} {F : List Int} {S : Store} (h : view S v = some (.list (iD F))) (h0 : F ≠ []) : fMax1 [v] S = .ok (.d (.int (mxL F))) S := by
  cases F with
  | nil => exact absurd rfl h0
  | cons n ns =>
    have a := alike_ints (n :: ns)
    have m := PySem.W.maxD_ints n ns
    have ok := seqok_ints (n :: ns)
    simp only [List.map_cons] at a ok
    simp [fMax1, fSeq, h, seqOf, ok, a, m, iD, mxL]
theorem min_of {v : Vl} {F : List Int} {S : Store} (h : view S v = some (.list (iD F))) (h0 : F ≠ []) : fMin1 [v] S = .ok (.d (.int (mnL F))) S := by
  cases F with
  | nil => exact absurd rfl h0
  | cons n ns =>
    have a := alike_ints (n :: ns)
    have m := PySem.W.minD_ints n ns
    have ok := seqok_ints (n :: ns)
    simp only [List.map_cons] at a ok
    simp [fMin1, fSeq, h, seqOf, ok, a, m, iD, mnL]
theorem iD_set {F : List Int} {i : Nat} {v : Int} : (iD F).set i (.int v) = iD (F.set i v) := by simp [iD, List.map_set]
theorem iD_len {F : List Int} : (iD F).length = F.length := by simp [iD]
theorem at_iD {F : List Int} {i : Nat} (h : i < F.length) : atI (iD F) (i : Nat) = some (.int (atN F i)) := by
  rw [atI_nat, atN_lt h]
  simp [iD, h]
theorem ixN_ok {n i : Nat} (h : i < n) : ixN n (i : Int) = some i := by
  have : (i : Int) < n := by omega
  simp [ixN, this]
theorem sum_of (ns : List Int) (S : Store) : fSum1 [.d (.list (iD ns))] S = .ok (.d (.int ns.sum)) S := by
  have h : intsOf (iD ns) = some ns := by
    unfold iD
    induction ns with
    | nil => rfl
    | cons n ns ih => simp [intsOf, ih]
  simp [fSum1, h]
theorem sort_ints {F : List Int} (h : F.Pairwise (· ≤ ·)) : sortD (iD F) = iD F := by
  unfold sortD iD
  refine List.mergeSort_of_pairwise ?_
  rw [List.pairwise_map]
  refine h.imp fun {a b} hab => ?_
  have e : PySem.W.dataLe false (fun d => d) (PyData.int a) (PyData.int b) = decide (a ≤ b) := congrFun (congrFun (PySem.W.dataLe_int (fun z : Int => z)) a) b
  rw [e]
  simpa using hab
theorem sorted_ints {F : List Int} {S : Store} (h : F.Pairwise (· ≤ ·)) (hl : F.length ≤ 900) : fSortL false [.d (.list (iD F))] S = .ok (.d (.list (iD F))) S := by
  have a : seqOk (iD F) = true := seqok_ints F
  have b : sortB (iD F) = true := by
    have := alike_ints F
    unfold sortB iD
    rw [this]
    simp
  have sz : F.length ≤ sizeLine := line1000 (by omega)
  simp [fSortL, a, b, iD_len, sz, sort_ints h]
theorem shal_ints (F : List Int) : shal (.list (iD F)) = true := by
  have p := plain_ints F
  simp [shal, PyData.plain, PyData.depth, iD, p.1, p.2]
theorem mx_le {F : List Int} {b : Int} (h0 : F ≠ []) (h : ∀ x ∈ F, x ≤ b) : mxL F ≤ b := h _ (mx_mem h0)
def rangeC (i c : Int) (n : Nat) : List D := (List.range n).map fun k => .int (i + (k : Nat) * c)
def stepOk (i j c : Int) : Bool := decide (c ≠ 0) && (decide (c.natAbs < 1073741824) && Builtin.Range.small i j c)
theorem stepOk_p {i j c : Int} (h : stepOk i j c = true) : RgC i j c (Builtin.Range.rangeSize i j c).toNat := by
  simp only [stepOk, Bool.and_eq_true, decide_eq_true_eq] at h
  exact ⟨h.1, h.2.1, h.2.2, PyProof.Rows.rangeSize_toNat i j c⟩
def iRangeC (f : Av) : Iv := fun ρ S => (f ρ S).bind fun vs S1 => match vs with
  | [v, u, w] => match view S1 v, view S1 u, view S1 w with
    | some (.int i), some (.int j), some (.int c) => if stepOk i j c = true then .ok (rangeC i c (Builtin.Range.rangeSize i j c).toNat) S1 else .bad
    | _, _, _ => .bad
  | _ => .bad
section
variable {K : PySem.W.Frag} {F : Addr → Prop} {H : Hp}
theorem rangeC_len {i c : Int} {n : Nat} : (rangeC i c n).length = n := by simp [rangeC]
theorem yl_rangeC {i c : Int} {n : Nat} : Yl K F H (Itc i c n) (rangeC i c n) := by
  refine ⟨fun k H' hk _ => by rw [rangeC_len] at hk; exact hk, fun H' _ => by rw [rangeC_len]; exact Nat.le_refl _, fun k H' v H'' hk _ y => ?_⟩
  rw [rangeC_len] at hk
  exact ⟨.int (i + (k : Nat) * c), by simp [rangeC, hk], .inl ⟨y.1, by rw [y.2]; exact .int _⟩⟩
end
section
variable {K : PySem.W.Frag} {mg : Str → Option Value} {φ : Nat → Addr} {F : Addr → Prop} {H : Hp} {n : Nat}
theorem reps3 {xs : List V} {v u w : Vl} (r : RepVs K mg φ F H n xs [v, u, w]) : ∃ x y z, xs = [x, y, z] ∧ RepV K mg φ F H n x v ∧ RepV K mg φ F H n y u ∧ RepV K mg φ F H n z w := by
  cases xs with
  | nil => exact r.elim
  | cons x xs =>
    obtain ⟨y, z, e, h1, h2⟩ := reps2 r.2
    exact ⟨x, y, z, by rw [e], r.1, h1, h2⟩
end
theorem cons3 {f g k : Ev} {ρ : Env} {S S1 : Store} {vs : List Vl} (h : aCons f (aCons g (aCons k aNil)) ρ S = .ok vs S1) : ∃ v u w, vs = [v, u, w] := by
  unfold aCons at h
  cases e : f ρ S with
  | ok v S2 =>
    simp only [e, bind_ok] at h
    cases e2 : ((g ρ S2).bind fun v S1 => ((k ρ S1).bind fun v S1 => (aNil ρ S1).bind fun vs S2 => Res.ok (v :: vs) S2).bind fun vs S2 => Res.ok (v :: vs) S2) with
    | ok us S3 =>
      simp only [e2, bind_ok] at h
      cases h
      obtain ⟨u, w, rfl⟩ := cons2 (f := g) (g := k) e2
      exact ⟨v, u, w, rfl⟩
    | ex x S2 => simp only [e2, bind_ex] at h; cases h
    | bad => simp only [e2, bind_bad] at h; cases h
  | ex x S2 => simp only [e, bind_ex] at h; cases h
  | bad => simp only [e, bind_bad] at h; cases h
section
variable {X : Cx} {W : WX} {tg : Expr}
theorem range_3 {f : Av} {σ : L2.St} {H : Hp} {R : It → Hp → Prop} (h : RI τ X.K X.mg W (iRangeC f) σ H R) (h1 : ∀ ρ S vs S1, f ρ S = .ok vs S1 → ∃ v u w, vs = [v, u, w]) : iRng3 (RA τ X.K X.mg W f) σ H R := by
  obtain ⟨φ, F, ρ, S, g, sl, p⟩ := h
  refine ⟨φ, F, ρ, S, g, sl, ?_⟩
  unfold iRangeC at p
  cases e0 : f ρ S with
  | bad => rw [e0] at p; exact p
  | ex e S1 => rw [e0] at p; exact p
  | ok vs S1 =>
    rw [e0] at p
    obtain ⟨v, u, w, rfl⟩ := h1 _ _ _ _ e0
    intro φ1 F1 H1 nw1 xs r
    have p1 := PostG.start g nw1 p
    obtain ⟨x, y, z, rfl, r1, r2, r3⟩ := reps3 r
    simp only [bind_ok] at p1
    split at p1
    · rename_i i j c e1 e2 e3
      by_cases hl : stepOk i j c = true
      · rw [if_pos hl] at p1
        exact ⟨i, j, c, _, by rw [show x = _ from ob_of nw1.sg r1 e1, show y = _ from ob_of nw1.sg r2 e2, show z = _ from ob_of nw1.sg r3 e3], stepOk_p hl, p1 _ _ _ (.refl nw1.sg) _ yl_rangeC⟩
      · rw [if_neg hl] at p1; exact p1.elim
    · exact p1.elim
theorem di_range3 {c d e : Expr} {f f' f'' : Ev} {p pos : Pos} (hg : Gl X "range") (hm : X.mg "range" = none) (h : DA τ X W [c, d, e] (aCons f (aCons f' (aCons f'' aNil)))) (hs : starEach [c, d, e] X.env = (false, eval c X.env) :: starEach [d, e] X.env := by rfl) (hpl : (backTo pos (starEach [d, e] X.env)).any (·.1) = false := by rfl) :
    DI τ X W tg (.Call (.Name "range" p) [c, d, e] [] pos) (iRangeC (aCons f (aCons f' (aCons f'' aNil)))) := ⟨PI.mono (pi_range3 hg hm h.r hs hpl) fun σ H Q q => range_3 q fun _ _ _ _ => cons3⟩
end
def oAddI (a b : Vl) (S : Store) : Res Vl := match view S a, view S b with
  | some (.int i), some (.int j) => .ok (.d (.int (i + j))) S
  | _, _ => .bad
section
variable {K : PySem.W.Frag} {mg : Str → Option Value}
theorem ok_addI : OpOk τ K mg (rI0 fun i j => V.int (i + j)) oAddI := by
  intro φ F H S x y v u Q W g r1 r2 p
  cases e1 : view S v with
  | none => simp only [oAddI, e1] at p; exact p.elim
  | some d1 =>
    cases e2 : view S u with
    | none => simp only [oAddI, e1, e2] at p; cases d1 <;> exact p.elim
    | some d2 =>
      have o1 := ob_of g r1 e1
      have o2 := ob_of g r2 e2
      simp only [oAddI, e1, e2] at p
      cases d1 <;> cases d2 <;> dsimp only at p <;> first | exact p.elim | skip
      exact ⟨_, _, o1, o2, Post.ok g p (.int _)⟩
end
@[simp] theorem oAddI_int {i j : Int} {S : Store} : oAddI (.d (.int i)) (.d (.int j)) S = .ok (.d (.int (i + j))) S := rfl
theorem ap_sAug {i : Nat} {o : Vl → Vl → Store → Res Vl} {f : Ev} {ρ : Env} {S : Store} {v : Vl} (h : ρ[i]? = some (some v)) : sAug i o f ρ S = (f ρ S).st ρ fun u S1 => (o v u S1).st ρ fun w S2 => .nx (ρ.set i (some w)) S2 := by
  unfold sAug
  rw [h]
def rSumX (K : PySem.W.Frag) : List V → Hp → VK → Prop := fun vs H Q => ∃ (a : Addr) (ns : List Int), vs = [V.ref a] ∧ (SqL K H a (ns.map V.int) ∨ SqT K H a (ns.map V.int)) ∧ Q (.int ns.sum) H
theorem sum_rawT {prog : Program} {w : World} {A : Around} {E : Value → Shared → Prop} {s : Shared} {l : Addr} {its : List Value} {ns : List Int} {Q : Value → Shared → Prop} (hh : A.handled = none) (hl : s.heap.IsTuple l its.toArray) (hi : IntsAre its ns)
    (h : ∀ h' tk t', (∀ b o, s.heap.get? b = some o → h'.get? b = some o) → Q (.int ns.sum t') { s with heap := h', toks := tk }) : wpAny (model prog w) A (call (.builtin "sum") [.ref l]) Q E s := by
  obtain ⟨xs, e⟩ := hi.allInts.items
  have hn : numsOf (intItems xs).toList = ns := by rw [← e]; exact hi.numsOf
  rw [nums_intItems] at hn
  rw [e] at hl
  refine PySem.W.ktm_sumG hh hl fun h' tk t' hk => ?_
  have := h h' tk t' hk
  rw [preSum_eq, List.take_of_length_le (by simp), hn]; exact this
theorem call_sumX {X : Cx} (hc : X.calm = true) : CallR X (.builtin "sum") (rSumX X.K) := by
  intro pins s σ H vs us Q I r h
  obtain ⟨a, ns, rfl, hs, q⟩ := h
  rcases hs with hs | hs
  · obtain ⟨its, rv, hl, _⟩ := I.list hs
    rw [Vals.ref1 r]
    exact sum_raw (I.ok.hd hc) hl.isList rv.ints fun h' tk t' hk => ⟨.int _, H, I.kept hk, ⟨_, rfl⟩, q⟩
  · obtain ⟨its, rv, hl, _⟩ := I.tuple hs
    rw [Vals.ref1 r]
    exact sum_rawT (I.ok.hd hc) hl rv.ints fun h' tk t' hk => ⟨.int _, H, I.kept hk, ⟨_, rfl⟩, q⟩
def fSumX : Fn := fun vs S => match vs with
  | [v] => match view S v with
    | some (.list ds) => match intsOf ds with
      | some ns => .ok (.d (.int ns.sum)) S
      | none => .bad
    | some (.tuple ds) => match intsOf ds with
      | some ns => .ok (.d (.int ns.sum)) S
      | none => .bad
    | _ => .bad
  | _ => .bad
theorem ok_sumX {K : PySem.W.Frag} {mg : Str → Option Value} : CallOk τ K mg (rSumX K) fSumX := by
  intro φ F H S xs vs Q W g r p
  unfold fSumX at p
  split at p
  · rename_i v
    obtain ⟨x, rfl, r1⟩ := reps1 r
    split at p
    · rename_i ds e
      obtain ⟨a, ys, rfl, h1, h2⟩ := ob_of g r1 e
      split at p
      · rename_i ns en
        have ey := intsOf_fz en h2
        subst ey
        exact ⟨a, ns, rfl, .inl (.inl (.inl h1)), Post.ok g p (.int _)⟩
      · exact p.elim
    · rename_i ds e
      obtain ⟨a, ys, rfl, h1, h2⟩ := ob_of g r1 e
      split at p
      · rename_i ns en
        have ey := intsOf_fz en h2
        subst ey
        exact ⟨a, ns, rfl, .inr h1.sq, Post.ok g p (.int _)⟩
      · exact p.elim
    · exact p.elim
  · exact p.elim
theorem intsOf_iD (ns : List Int) : intsOf (iD ns) = some ns := by
  unfold iD
  induction ns with
  | nil => rfl
  | cons n ns ih => simp [intsOf, ih]
theorem sumX_list (ns : List Int) (S : Store) : fSumX [.d (.list (iD ns))] S = .ok (.d (.int ns.sum)) S := by
  simp [fSumX, intsOf_iD]
theorem sumX_tup (ns : List Int) (S : Store) : fSumX [.d (.tuple (iD ns))] S = .ok (.d (.int ns.sum)) S := by
  simp [fSumX, intsOf_iD]
theorem sumX_view {v : Vl} {ns : List Int} {S : Store} (h : view S v = some (.list (iD ns))) : fSumX [v] S = .ok (.d (.int ns.sum)) S := by
  simp [fSumX, intsOf_iD, h]
theorem line16 {n : Nat} (h : n ≤ 16000000) : n ≤ sizeLine := Nat.le_trans h (by decide)
theorem lcB_map {α : Type} {tg : Tg} {f : Ev} {ρ : Env} {S : Store} (dt : α → D) (g : α → D) (xs : List α) (h : ∀ x ∈ xs, ∃ ρ1, tg (.d (dt x)) ρ = some ρ1 ∧ f ρ1 S = .ok (.d (g x)) S) (hl : xs.length < 16000000) : lcL tg tYesD f ρ (xs.map dt) [] S = .ok (xs.map g) S := by
  suffices H : ∀ (xs : List α) (acc : List D), (∀ x ∈ xs, ∃ ρ1, tg (.d (dt x)) ρ = some ρ1 ∧ f ρ1 S = .ok (.d (g x)) S) → acc.length + xs.length < 16000000 → lcL tg tYesD f ρ (xs.map dt) acc S = .ok (acc ++ xs.map g) S by
    have := H xs [] h (by simpa using hl)
    simpa using this
  intro xs
  induction xs with
  | nil => intro acc _ _; simp
  | cons x xs ih =>
    intro acc h hl
    obtain ⟨ρ1, e1, e2⟩ := h x (by simp)
    have hl' : acc.length + (xs.length + 1) < 16000000 := hl
    have hs : acc.length < sizeLine := Nat.lt_of_lt_of_le (by omega) (line16 (Nat.le_refl 16000000))
    have ih := ih (acc ++ [g x]) (fun y hy => h y (by simp [hy])) (by simp; omega)
    rw [List.map_cons]
    unfold lcL
    simp only [e1, ap_tYesD, noX_ok, bind_ok, if_true, e2, fr_d, hs]
    rw [ih]
    simp
theorem lcB_fm {α : Type} {tg : Tg} {t : Tv} {f : Ev} {ρ : Env} {S : Store} (dt : α → D) (p : α → Bool) (g : α → D) (xs : List α) (h : ∀ x ∈ xs, ∃ ρ1, tg (.d (dt x)) ρ = some ρ1 ∧ t ρ1 S = .ok (p x) S ∧ f ρ1 S = .ok (.d (g x)) S) (hl : xs.length < 16000000) : lcL tg t f ρ (xs.map dt) [] S = .ok ((xs.filter p).map g) S := by
  suffices H : ∀ (xs : List α) (acc : List D), (∀ x ∈ xs, ∃ ρ1, tg (.d (dt x)) ρ = some ρ1 ∧ t ρ1 S = .ok (p x) S ∧ f ρ1 S = .ok (.d (g x)) S) → acc.length + xs.length < 16000000 → lcL tg t f ρ (xs.map dt) acc S = .ok (acc ++ (xs.filter p).map g) S by
    have := H xs [] h (by simpa using hl)
    simpa using this
  intro xs
  induction xs with
  | nil => intro acc _ _; simp
  | cons x xs ih =>
    intro acc h hl
    obtain ⟨ρ1, e1, e2, e3⟩ := h x (by simp)
    have hl' : acc.length + (xs.length + 1) < 16000000 := hl
    have hs : acc.length < sizeLine := Nat.lt_of_lt_of_le (by omega) (line16 (Nat.le_refl 16000000))
    rw [List.map_cons]
    unfold lcL
    cases q : p x with
    | true =>
      have ih := ih (acc ++ [g x]) (fun y hy => h y (by simp [hy])) (by simp; omega)
      rw [q] at e2
      simp only [e1, e2, noX_ok, bind_ok, if_true, e3, fr_d, hs]
      rw [ih]
      simp [q]
    | false =>
      have ih := ih acc (fun y hy => h y (by simp [hy])) (by omega)
      rw [q] at e2
      simp only [e1, e2, noX_ok, bind_ok, Bool.false_eq_true, if_false]
      rw [ih]
      simp [q]
section
variable {P : Program} {w : World} {A : Around} {E : Value → Shared → Prop} {s : Shared}
set_option maxRecDepth 100000 in
set_option maxHeartbeats 3200000 in
theorem call_set_lstI {l : Addr} {items : Array Value} (ns : List Int) {Q : Value → Shared → Prop} (hh : A.handled = none) (hl : s.heap.IsList l items) (hit : IntsAre items.toList ns) (hb : ns.length + 1 < scanBound)
    (h : ∀ (h' : Heap) (tk c : Nat), SetR w h' s.heap.objs.size (fun j => decide (j ∈ ns)) c → c ≤ ns.length → (∀ b o, s.heap.get? b = some o → h'.get? b = some o) → Q (.ref s.heap.objs.size) { s with heap := h', toks := tk }) :
    wpAny (model P w) A (call (.type "set") [.ref l]) Q E s := by
  have hisz : items.size = ns.length := by
    have q := IntsAre.length hit
    rw [Array.length_toList] at q
    exact q
  obtain ⟨c, tl, hmro⟩ := F.called_set.mro
  have hmade := F.called_set.made
  have hsub := F.called_set.sub
  refine wpAny_call (codeAny_of_tree ?_)
  show wpAny _ _ (callAny (.type "set") _) _ _ _
  refine wpAny_pure ⟨Code.quiet_builtin _ (by decide +kernel), codeAny_builtin F.entry_type_call ?_⟩
  rw [Around.under_plain (weight_type_call_type "set" [.ref l] []) rfl]
  have h1 := F.called_set.notType
  have h2 := F.called_set.canCreate
  have hct := F.typeCall_set_1 (.ref l)
  repeat (any_goals (first | assumption | wp_step))
  refine codeAny_mono (code_set_led1 (.ref l) (E := E) (Q₁ := fun obj s₁ => obj = .ref s.heap.objs.size ∧ s₁ = { s with heap := s.heap.push { cls := .type "set", dict := none, data := .set #[] 0 (.fresh 0 0 (!w.params.followText "set-order")) } }) ⟨rfl, rfl⟩) fun r s₁ hr => ?_
  cases r with
  | error e => exact hr
  | ok fl =>
    cases fl with
    | ret obj =>
      obtain ⟨rfl, rfl⟩ := hr
      have hS : (s.heap.push { cls := .type "set", dict := none, data := .set #[] 0 (.fresh 0 0 (!w.params.followText "set-order")) }).get? s.heap.objs.size = some { cls := .type "set", dict := none, data := .set #[] 0 (.fresh 0 0 (!w.params.followText "set-order")) } := Heap.get?_push_size _ rfl
      have hT : Shared.TypeIs { s with heap := s.heap.push { cls := .type "set", dict := none, data := .set #[] 0 (.fresh 0 0 (!w.params.followText "set-order")) } } (.ref s.heap.objs.size) "set" := ⟨_, hS, rfl⟩
      have hli := F.called_set.init.lookup
      have hbi := F.called_set.init.bind (.ref s.heap.objs.size)
      repeat (any_goals (first | assumption | wp_step))
      refine codeAny_mono (codeAny_call_builtin (R := wants (fun r s₂ => r = .none ∧ ∃ h' tk c, s₂ = { s with heap := h', toks := tk } ∧ SetR w h' s.heap.objs.size (fun j => decide (j ∈ ns)) c ∧ c ≤ ns.length ∧
          (∀ b o, s.heap.get? b = some o → h'.get? b = some o)) E) F.called_set.init.plain F.entry_set_init (check_set_init_1 hT ?_)) fun r₂ s₂ hr₂ => ?_
      · obtain ⟨ol, hol, hcl, nl, hdl⟩ := hl
        obtain ⟨ocls, odict, odata, oslots⟩ := ol
        simp only at hcl hdl
        subst hcl; subst hdl
        have hol' : (s.heap.push { cls := .type "set", dict := none, data := .set #[] 0 (.fresh 0 0 (!w.params.followText "set-order")) }).get? l = some { cls := .type "list", dict := odict, data := .seq items nl, slots := oslots } := Heap.get?_push_of_some _ hol
        have hsls := F.sub_list_set
        have hslf := F.sub_list_frozenset
        have hne : (Value.type "list" == Value.type "dict") = false := by decide
        have hl1 : (s.heap.push { cls := .type "set", dict := none, data := .set #[] 0 (.fresh 0 0 (!w.params.followText "set-order")) }).IsList l items := ⟨_, hol', rfl, nl, rfl⟩
        unfold Builtin.«set.__init__» noKeywords Builtin.Frozenset.updateFrom
        generalize hPI : pyIter = PI
        wp_walk
        subst hPI
        refine wpAny_pyIter_list hl1 ?_
        refine wpAny_bind (wpAny_runValue ?_)
        have hlS : l < s.heap.objs.size := Heap.lt_size hol
        have hh3 : A.in1.in1.in1.handled = none := by simp [hh]
        have hz1 : (s.heap.push { cls := .type "set", dict := none, data := .set #[] 0 (.fresh 0 0 (!w.params.followText "set-order")) }).objs.size = s.heap.objs.size + 1 := Heap.size_push ..
        have hneI : l ≠ (s.heap.push { cls := .type "set", dict := none, data := .set #[] 0 (.fresh 0 0 (!w.params.followText "set-order")) }).objs.size := by
          rw [Heap.size_push]; exact Nat.ne_of_lt (Nat.lt_succ_of_lt hlS)
        have hSf : s.heap.objs.size ∉ [(s.heap.push { cls := .type "set", dict := none, data := .set #[] 0 (.fresh 0 0 (!w.params.followText "set-order")) }).objs.size, l] := by
          rw [Heap.size_push]; simp only [List.mem_cons, List.mem_singleton, List.not_mem_nil, or_false, not_or]
          exact ⟨Nat.ne_of_lt (Nat.lt_succ_self _), Nat.ne_of_gt hlS⟩
        have hval : ∀ (i : Nat) (v : Value), items[i]? = some v → ∃ k t, ns[i]? = some k ∧ v = .int k t := fun i v hv => by
          have hi : i < ns.length := by rw [← hisz]; exact (Array.getElem?_eq_some_iff.mp hv).1
          obtain ⟨t, e⟩ := PyProof.Rows.IntsAre.int_at hit i v (by rw [Array.getElem?_toList]; exact hv)
          refine ⟨ns[i], t, List.getElem?_eq_getElem hi, ?_⟩
          rw [e, List.getD_eq_getElem?_getD, List.getElem?_eq_getElem hi] <;> rfl
        refine set_update_ints ((Walks.list hh3 _ l hneI items).toS) s.heap.objs.size
          hSf ns hisz hb hval (items.size - 0) 0 _ (by omega) (Nat.zero_le _)
          ⟨⟨_, Heap.get?_push_size _ rfl, rfl, rfl⟩, (hl1.push _)⟩ ?hS0 ?hR
        case hS0 =>
          have hget : ((s.heap.push { cls := .type "set", dict := none, data := .set #[] 0 (.fresh 0 0 (!w.params.followText "set-order")) }).push { cls := .type "list_iterator", data := .fields #[.ref l, .int 0 0] }).get? s.heap.objs.size
              = some { cls := .type "set", dict := none, data := .set #[] 0 (.fresh 0 0 (!w.params.followText "set-order")) } := Heap.get?_push_of_some _ hS
          exact ⟨0, Nat.le_refl 0, setR_new_at hget⟩
        case hR =>
          intro s' c' hm hc' hS'
          obtain ⟨h', g2, d', tk', os'⟩ := s'
          have eg : g2 = s.gens := hm.gens
          have ed : d' = s.drawn := hm.drawn
          have eo : os' = s.os := hm.os
          subst eg; subst ed; subst eo
          show wpAny _ _ _ _ _ _
          refine wpAny_pure ?_
          show wpAny _ _ (ret Value.none) _ _ _
          rw [hisz] at hc'
          refine wpAny_pure ⟨rfl, h', tk', c', rfl, hS', hc', fun b o e => ?_⟩
          have hb0 : b < s.heap.objs.size := Heap.lt_size e
          have hb1 : b ≠ s.heap.objs.size := Nat.ne_of_lt hb0
          have hb2 : b ≠ (s.heap.push { cls := .type "set", dict := none, data := .set #[] 0 (.fresh 0 0 (!w.params.followText "set-order")) }).objs.size := by
            rw [Heap.size_push]; exact Nat.ne_of_lt (Nat.lt_succ_of_lt hb0)
          exact hm.heap b o (by simp only [List.mem_cons, List.mem_singleton, List.not_mem_nil, or_false, not_or]; exact ⟨hb1, hb2⟩) (Heap.get?_push_of_some _ (Heap.get?_push_of_some _ e))
      · cases r₂ with
        | error e => exact hr₂
        | ok fl₂ =>
          cases fl₂ with
          | ret r =>
            obtain ⟨rfl, h', tk, c', rfl, hS', hc', hk'⟩ := hr₂
            repeat (any_goals (first | assumption | wp_step))
            exact h _ _ _ hS' hc' hk'
          | _ => exact hr₂.elim
    | _ => exact hr.elim
end
section
variable {X : Cx}
def tSrtSet (K : PySem.W.Frag) (ta : TE) : TE := fun σ H Q => ta σ H fun x H1 => ∃ (l : Addr) (ns : List Int), x = V.ref l ∧ SqL K H1 l (ns.map V.int) ∧ ns.length < 64 ∧ ∀ (ms : List Int) (p : Addr), ms.Pairwise (· < ·) → (∀ k : Int, k ∈ ms ↔ k ∈ ns) → H1 p = none → Q (.ref p) (upd H1 p (.lst (ms.map V.int)))
theorem pe_srtSet {a : Expr} {ta : TE} {p p2 q pos : Pos} (hc : X.calm = true) (hg : Gl X "sorted") (hm : X.mg "sorted" = none) (hg2 : Gl X "set") (hm2 : X.mg "set" = none) (ha : PE X a ta)
    (na : starEach [a] X.env = (false, eval a X.env) :: starEach [] X.env := by rfl) : PE X (.Call (.Name "sorted" p) [.Call (.Name "set" p2) [a] [] q] [] pos) (tSrtSet X.K ta) := by
  refine ⟨fun pins s σ H Q I h => ?_⟩
  refine Call_ (ld_blt I hg hm bb_sorted ?_)
  refine PyProof.Rows.callWith_builtin1 (PyProof.Rows.args_cons ?_ rfl) rfl rfl
  refine Call_ (ld_blt I hg2 hm2 PyProof.Rows.boot_set ?_)
  refine PyProof.Rows.callWith_type1 (PyProof.Rows.args_cons (thn (ha.run pins s σ H _ I h) fun v s1 ⟨x, H1, I1, r1, q1⟩ => PyProof.Rows.args_nil ?_) na) na rfl
  obtain ⟨l, ns, rfl, hq, h64, q1⟩ := q1
  cases r1
  obtain ⟨its, r, pl, hz⟩ := I1.list hq
  have hi : IntsAre its.toArray.toList ns := ints_of_vals r
  refine call_set_lstI ns (I1.ok.hd hc) pl.isList hi (by unfold scanBound; omega) fun h' tk c R1 hcn k => ?_
  refine PyProof.Rows.args_nil ?_
  have I2 : Inv X pins σ H1 { s1 with heap := h', toks := tk } := I1.kept fun b o e => k b o e
  refine sorted_set (s := { s1 with heap := h', toks := tk }) R1 (I2.ok.hd hc) (by omega) fun s' p out c ms k2 g o hp hg hi2 hs hm3 hl => ?_
  have hlen : (ms.map V.int).length ≤ sizeLine := by rw [List.length_map, hl, sizeLine_eq]; omega
  have hn : H1 p = none := I2.hok.fresh hp
  have J : Inv X pins σ (upd H1 p (.lst (ms.map V.int))) { s1 with heap := s'.heap, gens := s'.gens, drawn := s'.drawn, toks := s'.toks } :=
    Inv.call (s := { s1 with heap := h', toks := tk }) I2 (ch := []) (Un.laid k2 hp hn) (I2.hok.laid k2 hp ⟨hlen, out.toList, c, vals_of_ints hi2, hg⟩) (by rw [g]; exact I2.bare) (fun _ z => nomatch z)
  have e : s' = { s1 with heap := s'.heap, gens := s'.gens, drawn := s'.drawn, toks := s'.toks } := by
    cases s'
    cases s1
    cases o
    rfl
  rw [e]
  exact ⟨.ref p, _, J, rfl, q1 ms p hs (fun kk => by rw [hm3 kk, decide_eq_true_eq]) hn⟩
end
def insU (x : Int) : List Int → List Int
  | [] => [x]
  | y :: ys => if x < y then x :: y :: ys else if x = y then y :: ys else y :: insU x ys
def sortU : List Int → List Int
  | [] => []
  | x :: xs => insU x (sortU xs)
theorem insU_mem {x z : Int} : ∀ (ys : List Int), z ∈ insU x ys ↔ z = x ∨ z ∈ ys := by
  intro ys
  induction ys with
  | nil => simp [insU]
  | cons y ys ih =>
    rw [insU]
    by_cases h1 : x < y
    · rw [if_pos h1]; simp
    · rw [if_neg h1]
      by_cases h2 : x = y
      · rw [if_pos h2]
        subst h2
        simp
      · rw [if_neg h2, List.mem_cons, ih, List.mem_cons]
        constructor
        · rintro (h | h | h) <;> simp [h]
        · rintro (h | h | h) <;> simp [h]
theorem insU_st {x : Int} : ∀ (ys : List Int), ys.Pairwise (· < ·) → (insU x ys).Pairwise (· < ·) := by
  intro ys
  induction ys with
  | nil => intro _; simp [insU]
  | cons y ys ih =>
    intro h
    rw [insU]
    have h' := List.pairwise_cons.mp h
    by_cases h1 : x < y
    · rw [if_pos h1, List.pairwise_cons]
      refine ⟨fun z hz => ?_, h⟩
      rcases List.mem_cons.mp hz with rfl | hz
      · exact h1
      · exact Int.lt_trans h1 (h'.1 z hz)
    · rw [if_neg h1]
      by_cases h2 : x = y
      · rw [if_pos h2]; exact h
      · rw [if_neg h2, List.pairwise_cons]
        refine ⟨fun z hz => ?_, ih h'.2⟩
        rcases (insU_mem ys).mp hz with rfl | hz
        · omega
        · exact h'.1 z hz
theorem sortU_mem {z : Int} : ∀ (xs : List Int), z ∈ sortU xs ↔ z ∈ xs := by
  intro xs
  induction xs with
  | nil => simp [sortU]
  | cons x xs ih => rw [sortU, insU_mem, ih, List.mem_cons]
theorem sortU_st : ∀ (xs : List Int), (sortU xs).Pairwise (· < ·) := by
  intro xs
  induction xs with
  | nil => simp [sortU]
  | cons x xs ih => rw [sortU]; exact insU_st _ ih
theorem rise_uniq : ∀ (xs ys : List Int), xs.Pairwise (· < ·) → ys.Pairwise (· < ·) → (∀ z, z ∈ xs ↔ z ∈ ys) → xs = ys := by
  intro xs
  induction xs with
  | nil =>
    intro ys _ _ h
    cases ys with
    | nil => rfl
    | cons y ys => exact absurd ((h y).mpr (by simp)) (by simp)
  | cons x xs ih =>
    intro ys hx hy h
    cases ys with
    | nil => exact absurd ((h x).mp (by simp)) (by simp)
    | cons y ys =>
      have hx' := List.pairwise_cons.mp hx
      have hy' := List.pairwise_cons.mp hy
      have e : x = y := by
        have a : x ∈ y :: ys := (h x).mp (by simp)
        have b : y ∈ x :: xs := (h y).mpr (by simp)
        rcases List.mem_cons.mp a with a | a
        · exact a
        · rcases List.mem_cons.mp b with b | b
          · exact b.symm
          · have := hy'.1 x a
            have := hx'.1 y b
            omega
      subst e
      rw [ih ys hx'.2 hy'.2 fun z => ?_]
      constructor
      · intro hz
        rcases List.mem_cons.mp ((h z).mp (by simp [hz])) with q | q
        · have := hx'.1 z hz; omega
        · exact q
      · intro hz
        rcases List.mem_cons.mp ((h z).mpr (by simp [hz])) with q | q
        · have := hy'.1 z hz; omega
        · exact q
def eSrtSet (m : Bool) (f : Ev) : Ev := fun ρ S => (f ρ S).bind fun v S1 => match view S1 v with
  | some (.list ds) => match intsOf ds with
    | some ns => if ns.length < 64 then mkL m (iD (sortU ns)) S1 else .bad
    | none => .bad
  | _ => .bad
theorem de_srtSet {X : Cx} {W : WX} {e : Expr} {f : Ev} {p p2 q pos : Pos} (m : Bool) (hc : X.calm = true) (hg : Gl X "sorted") (hm : X.mg "sorted" = none) (hg2 : Gl X "set") (hm2 : X.mg "set" = none) (h : DE τ X W e f)
    (na : starEach [e] X.env = (false, eval e X.env) :: starEach [] X.env := by rfl) : DE τ X W (.Call (.Name "sorted" p) [.Call (.Name "set" p2) [e] [] q] [] pos) (eSrtSet m f) :=
  ⟨PE.mono (pe_srtSet hc hg hm hg2 hm2 h.r na) fun σ H Q ⟨φ, F, ρ, S, g, sl, pp⟩ => ⟨φ, F, ρ, S, g, sl, PostG.bind g pp fun φ1 F1 H1 S1 v x nw1 r1 p1 => by
    split at p1
    · rename_i ds e
      obtain ⟨a, ys, rfl, h1, h2⟩ := ob_of nw1.sg r1 e
      split at p1
      · rename_i ns en
        by_cases hl : ns.length < 64
        · rw [if_pos hl] at p1
          have ey := intsOf_fz en h2
          subst ey
          refine ⟨a, ns, rfl, .inl (.inl h1), hl, fun ms p hms hmem hn => ?_⟩
          have eq : ms = sortU ns := rise_uniq _ _ hms (sortU_st ns) fun z => by rw [hmem z, sortU_mem]
          subst eq
          exact Post.newL nw1.sg (fz_ints _) p1 p hn
        · rw [if_neg hl] at p1; exact p1.elim
      · exact p1.elim
    · exact p1.elim⟩⟩
@[simp] theorem ap_eSrtSet {ρ : Env} {S : Store} {m : Bool} {f : Ev} : eSrtSet m f ρ S = (f ρ S).bind fun v S1 => match view S1 v with
  | some (.list ds) => match intsOf ds with
    | some ns => if ns.length < 64 then mkL m (iD (sortU ns)) S1 else .bad
    | none => .bad
  | _ => .bad := rfl
section
variable {X : Cx}
theorem get_list : PGet X (rIxL X.K) := by
  intro pins s σ H o i ov iv Q I ro ri h
  obtain ⟨p, xs, k, z, rfl, rfl, hq, he, q⟩ := h
  cases ro
  obtain ⟨t, rfl⟩ := ri
  obtain ⟨its, r, pl, hz⟩ := I.list hq
  obtain ⟨j, h1, h2, h3, h4, h5⟩ := atI_get he
  obtain ⟨w, ew, rw'⟩ := r.get h2
  have hl := r.length
  have hn := line63
  have fin : EP X pins σ Q w s := ⟨z, H, I, rw', q⟩
  by_cases h0 : 0 ≤ k
  · have hj : k.toNat = j := by
      rw [seqIndex_of h0 h5] at h1
      exact Option.some.inj h1
    exact wpAny_getItem_list pl.isList h0 (by omega) (by rw [hj]; simpa using ew) fin
  · have hj : (k + (its.toArray.size : Int)).toNat = j := by
      rw [seqIndex_neg (by omega) h4] at h1
      rw [List.size_toArray, ← hl]
      exact Option.some.inj h1
    exact wpAny_getItem_list_neg pl.isList (by omega) (by rw [List.size_toArray] <;> omega) (by omega) (by rw [hj]; simpa using ew) fin
end
def putAdd (o i x y : Vl) (ρ : Env) (S : Store) : SRes := match x, y, o, view S i with
  | .d (.int a), .d (.int b), .loc n, some (.int k) => match S[n]? with
    | some (.lst xs) => match ixN xs.length k with
      | some j => .nx ρ (S.set n (.lst (xs.set j (.int (a + b)))))
      | none => .bad
    | _ => .bad
  | _, _, _, _ => .bad
def getL (o i : Vl) (S : Store) : Res Vl := match o, view S i with
  | .loc n, some (.int k) => match S[n]? with
    | some (.lst xs) => match atI xs k with
      | some (.int a) => .ok (.d (.int a)) S
      | _ => .bad
    | _ => .bad
  | _, _ => .bad
def sAddPut (fo fi fe : Ev) : Sv := fun ρ S => (fo ρ S).st ρ fun o S1 => (fi ρ S1).st ρ fun i S2 => (getL o i S2).st ρ fun x S3 => (fe ρ S3).st ρ fun y S4 => putAdd o i x y ρ S4
section
variable {X : Cx} {W : WX} {pos : Pos} {o i e : Expr} {fo fi fe : Ev} {p2 : Pos}
theorem ds_addPut (ho : DE τ X W o fo) (hi : DE τ X W i fi) (he : DE τ X W e fe) 
    (ha : ∀ ov iv new, augStore i ov iv new = (do holding [new, ov, iv] (setItem ov iv new); release [new, ov, iv] []; pure .next) := by intros; rfl) : DS τ X W (.AugAssign (.Subscript o i p2) .Add e pos) (sAddPut fo fi fe) :=
  ⟨PS.mono (ps_augS ho.r hi.r get_list he.r ip_add set_list ha) fun E σ H ⟨φ, F, ρ, S, g, sl, p⟩ => ⟨φ, F, ρ, S, g, sl, PostS.st g sl p fun φ1 F1 H1 S1 ov ox nw1 r1 p1 => ⟨φ1, F1, ρ, S1, nw1.sg, sl.now nw1, PostS.st nw1.sg (sl.now nw1) p1 fun φ2 F2 H2 S2 iv ix nw2 r2 p2 => by
    have sl2 := (sl.now nw1).now nw2
    unfold getL at p2
    split at p2
    · rename_i nn k q
      have r1' := RepV.now nw2 r1
      obtain ⟨hn, rfl⟩ := r1'
      split at p2
      · rename_i xs q2
        split at p2
        · rename_i a q3
          obtain ⟨h1, ys, h2, h3⟩ := nw2.sg.obj nn _ q2
          obtain ⟨v, e1, e2⟩ := h3.atI q3
          have ev : v = .int a := ob_of (S := S2) nw2.sg (show RepV X.K X.mg φ2 F2 H2 S2.length v (.d (.int a)) from e2) rfl
          subst ev
          refine ⟨φ2 nn, ys, k, .int a, rfl, ob_of nw2.sg r2 q, .inl (.inl h2), e1, φ2, F2, ρ, S2, nw2.sg, sl2, PostS.st nw2.sg sl2 p2 fun φ3 F3 H3 S3 yv yx nw3 r3 p3 => ?_⟩
          unfold putAdd at p3
          split at p3
          · rename_i d0 aa bb nn' kk e2 e3 e4
            cases e2
            cases e3
            split at p3
            · rename_i xs3 q5
              split at p3
              · rename_i j q6
                obtain ⟨g1, ys3, g2, g3⟩ := nw3.sg.obj _ _ q5
                have ey : yx = .int bb := ob_of nw3.sg r3 rfl
                have ri : ix = .int kk := ob_of nw3.sg (RepV.now nw3 r2) e4
                obtain ⟨_, er⟩ := RepV.now nw3 (RepV.now nw2 r1)
                have f4 : Fz X.K F3 H3 (.int (a + bb)) (.int (a + bb)) := .int _
                have nw5 := nw3.sg.write (o := .lst (ys3.set j (.int (a + bb)))) (mo := .lst (xs3.set j (.int (a + bb)))) q5 rfl fun nf same => ⟨nf, _, upd_same, (g3.set f4 j).ext (fun _ h => h) same⟩
                exact ⟨a, bb, rfl, ey, φ3 nn, ys3, kk, j, er, ri, g2, by rw [g3.len]; exact q6, PostS.nx nw5.sg ((sl2.now nw3).now nw5) (PostS.start nw3.sg nw5 p3)⟩
              · exact p3.elim
            · exact p3.elim
          · exact p3.elim
        · exact p2.elim
      · exact p2.elim
    · exact p2.elim⟩⟩⟩
end
@[simp] theorem ap_sAddPut {fo fi fe : Ev} {ρ : Env} {S : Store} : sAddPut fo fi fe ρ S = (fo ρ S).st ρ fun o S1 => (fi ρ S1).st ρ fun i S2 => (getL o i S2).st ρ fun x S3 => (fe ρ S3).st ρ fun y S4 => putAdd o i x y ρ S4 := rfl
theorem getL_ok {n : Nat} {v : Vl} {k a : Int} {xs : List D} {S : Store} (hi : view S v = some (.int k)) (hn : S[n]? = some (.lst xs)) (ha : atI xs k = some (.int a)) : getL (.loc n) v S = .ok (.d (.int a)) S := by
  simp only [getL, hi, hn, ha]
theorem putAdd_ok {n j : Nat} {v : Vl} {k a b : Int} {xs : List D} {S : Store} {ρ : Env} (hi : view S v = some (.int k)) (hn : S[n]? = some (.lst xs)) (hj : ixN xs.length k = some j) : putAdd (.loc n) v (.d (.int a)) (.d (.int b)) ρ S = .nx ρ (S.set n (.lst (xs.set j (.int (a + b))))) := by
  simp only [putAdd, hi, hn, hj]
def topS (i : Nat) : Stmt := PySem.Challenge.pw_airfield_k60_whole_flights_of_a_night.main.body.getD i (.Pass ⟨0, 0, 0, 0⟩)
abbrev s__law_hand : Stmt := topS 26
abbrev s_is_tuple_of : Stmt := topS 4
abbrev s_is_integer : Stmt := topS 1
abbrev s_is_within : Stmt := topS 2
abbrev s_is_kind : Stmt := topS 14
abbrev s_check_kinds : Stmt := topS 15
abbrev s_check_both : Stmt := topS 16
abbrev s_raw_quiet : Stmt := topS 18
abbrev s_most_flights : Stmt := topS 19
abbrev s_quiet_flights : Stmt := topS 20
abbrev s_ways_to : Stmt := topS 21
abbrev s_loudest : Stmt := topS 22
abbrev s_ways_many : Stmt := topS 24
abbrev s__law_is : Stmt := topS 29
abbrev s__law_draw : Stmt := topS 27
abbrev s__law_any : Stmt := topS 28
abbrev s__law_kinds : Stmt := topS 31
abbrev s__law_every : Stmt := topS 32
abbrev s__law_noise : Stmt := topS 33
abbrev s_are_within : Stmt := topS 3
abbrev s_raw_noise : Stmt := topS 17
abbrev s_is_flights : Stmt := topS 23
abbrev s__law_is_int : Stmt := topS 30
abbrev s__law_is_flights : Stmt := topS 36
abbrev s__law_is_right : Stmt := topS 37
abbrev s__law_no_kinds : Stmt := topS 34
abbrev s__law_word : Stmt := topS 35
abbrev s__law_are_refused : Stmt := topS 38
abbrev s_law : Stmt := topS 39
def kit_NoKinds : Str → Option Bool := fun y => List.lookup y [("NoKinds", true), ("NoNumber", false)]
def kit_NoNumber : Str → Option Bool := fun y => List.lookup y [("NoKinds", false), ("NoNumber", true)]
def kit_ValueError : Str → Option Bool := fun y => List.lookup y [("NoKinds", true), ("NoNumber", true)]
def sub_FieldError : Str → Option Bool := fun y => List.lookup y [("NoKinds", true), ("NoNumber", true)]
structure Hd (τ : Tb) (K : PySem.W.Frag) (mg : Str → Option Value) (base : Heap) : Prop where
  d__law_hand : DefF K mg "_law_hand" "_law_hand" s__law_hand
  d_is_tuple_of : DefF K mg "is_tuple_of" "is_tuple_of" s_is_tuple_of
  d_is_integer : DefF K mg "is_integer" "is_integer" s_is_integer
  d_is_within : DefF K mg "is_within" "is_within" s_is_within
  d_is_kind : DefF K mg "is_kind" "is_kind" s_is_kind
  d_check_kinds : DefF K mg "check_kinds" "check_kinds" s_check_kinds
  d_check_both : DefF K mg "check_both" "check_both" s_check_both
  d_raw_quiet : DefF K mg "raw_quiet" "raw_quiet" s_raw_quiet
  d_most_flights : DefF K mg "most_flights" "most_flights" s_most_flights
  d_quiet_flights : DefF K mg "quiet_flights" "quiet_flights" s_quiet_flights
  d_ways_to : DefF K mg "ways_to" "ways_to" s_ways_to
  d_loudest : DefF K mg "loudest" "loudest" s_loudest
  d_ways_many : DefF K mg "ways_many" "ways_many" s_ways_many
  d__law_is : DefF K mg "_law_is" "_law_is" s__law_is
  d__law_draw : DefF K mg "_law_draw" "_law_draw" s__law_draw
  d__law_any : DefF K mg "_law_any" "_law_any" s__law_any
  d__law_kinds : DefF K mg "_law_kinds" "_law_kinds" s__law_kinds
  d__law_every : DefF K mg "_law_every" "_law_every" s__law_every
  d__law_noise : DefF K mg "_law_noise" "_law_noise" s__law_noise
  d_are_within : DefF K mg "are_within" "are_within" s_are_within
  d_raw_noise : DefF K mg "raw_noise" "raw_noise" s_raw_noise
  d_is_flights : DefF K mg "is_flights" "is_flights" s_is_flights
  d__law_is_int : DefF K mg "_law_is_int" "_law_is_int" s__law_is_int
  d__law_is_flights : DefF K mg "_law_is_flights" "_law_is_flights" s__law_is_flights
  d__law_is_right : DefF K mg "_law_is_right" "_law_is_right" s__law_is_right
  d__law_no_kinds : DefF K mg "_law_no_kinds" "_law_no_kinds" s__law_no_kinds
  d__law_word : DefF K mg "_law_word" "_law_word" s__law_word
  d__law_are_refused : DefL τ K mg base "_law_are_refused" "_law_are_refused" s__law_are_refused
  d_law : DefF K mg "law" "law" s_law
  i_NoKinds : IsF K mg "NoKinds" kit_NoKinds
  i_NoNumber : IsF K mg "NoNumber" kit_NoNumber
  i_ValueError : IsF K mg "ValueError" kit_ValueError
  y_FieldError : TryF K mg "FieldError" sub_FieldError
  z_abs : mg "abs" = none
  z_all : mg "all" = none
  z_any : mg "any" = none
  z_bool : mg "bool" = none
  z_enumerate : mg "enumerate" = none
  z_int : mg "int" = none
  z_isinstance : mg "isinstance" = none
  z_len : mg "len" = none
  z_list : mg "list" = none
  z_max : mg "max" = none
  z_min : mg "min" = none
  z_range : mg "range" = none
  z_sorted : mg "sorted" = none
  z_str : mg "str" = none
  z_sum : mg "sum" = none
  z_tuple : mg "tuple" = none
  z_zip : mg "zip" = none
  e_NoKinds : ExF K mg "NoKinds"
  e_NoNumber : ExF K mg "NoNumber"
  c_MOST_ALL : IntF mg "MOST_ALL" 4000
  c_MOST_KINDS : IntF mg "MOST_KINDS" 6
  c_MOST_NOISE : IntF mg "MOST_NOISE" 100
  c_MOST_WANTED : IntF mg "MOST_WANTED" 40
abbrev N__law_hand : List Str := ["script", "cells", "cell"]
theorem sc__law_hand : FnScope N__law_hand ["script"] (defScope s__law_hand) := ⟨rfl, rfl, rfl, by decide +kernel, rfl, by decide +kernel, by decide +kernel⟩
noncomputable def l0__law_hand : Ev := (eBin oMod (eCall fInt (aCons (eCall fAbs (aCons (eCall fInt (aCons (eVar 2) aNil)) aNil)) aNil)) (eBin oPow (eD (.int 10)) (eD (.int 36))))
noncomputable def b__law_hand : Sv := (sCons (sSet 1 (eLc false (iSeq (eSl false (eVar 0) pNo (pAt (eD (.int 63))))) (gN 2) tYesD l0__law_hand [2]))
  (sRet (eLst true (aCons (eVar 1) (aCons (eD (.int 0)) (aCons (eD (.int 0)) (aCons (eBin (oAdd false) (eD (.int 2011)) (eBin (oMul false) (eD (.int 13)) (eCall fLen (aCons (eVar 1) aNil)))) (aCons (eD (.int 0)) aNil))))))))
noncomputable def g__law_hand : Fn := fnOf 3 b__law_hand
theorem bd__law_hand {P : Program} {w : World} {K : PySem.W.Frag} {mg : Str → Option Value} {base : Heap} (h : Hd τ K mg base) (f : Addr) (cdv : Value) (B : Around) (fs : List PySem.Env) (s : Shared) (H : Hp) (E : XK) (cc : Cc (cxD P w K mg base N__law_hand "_law_hand" s__law_hand f cdv B fs s H E) (wD E) 0) : DB τ (cxD P w K mg base N__law_hand "_law_hand" s__law_hand f cdv B fs s H E) (wD E) (defBody s__law_hand) b__law_hand :=
  (db_cons (ds_lc 1 false cc rfl rfl (by rfl) (di_seq (de_sl false (de_var 0) dp_no (dp_at de_int))) (blkOk_by (N := N__law_hand) (sc := defScope s__law_hand) (own := [("cell", 2)]) (by decide +kernel)) (fun _ _ _ _ _ => (dg_name 2 cc.blk.nd rfl (.inl rfl))) (fun _ _ _ _ _ => dts_nil) (fun _ _ _ _ _ => (de_bin op_modX ok_mod (de_callTy call_int1 ok_int (by rfl) h.z_int bb_int (da_cons (de_callB call_abs ok_abs (by rfl) h.z_abs bb_abs (da_cons (de_callTy call_int1 ok_int (by rfl) h.z_int bb_int (da_cons (de_var 2) da_nil)) da_nil)) da_nil)) (de_bin op_pow ok_pow de_int de_int))))
  (db_one (ds_ret (de_lst true (da_cons (de_var 1) (da_cons de_int (da_cons de_int (da_cons (de_bin op_addX ok_add de_int (de_bin op_mulX' ok_mul de_int (de_callB call_lenX ok_len (by rfl) h.z_len bb_len (da_cons (de_var 1) da_nil)))) (da_cons de_int da_nil)))))))))
theorem bi__law_hand (kV doc pm : Value) (an : Option Addr) (cdv ct : Value) (us : List Value) (hl : us.length = 1) : bindArgs (PySem.W.fnOf "_law_hand" "_law_hand" (defArgs s__law_hand) (defBody s__law_hand) (defScope s__law_hand) .none kV doc pm an cdv ct) ⟨us, []⟩ = pure ((["script"] : List Str).zip us) := match us, hl with | [_], _ => rfl
theorem ok__law_hand {P : Program} {w : World} {K : PySem.W.Frag} {mg : Str → Option Value} {base : Heap} (h : Hd τ K mg base) : DefOk τ P w K mg base 1 1 "_law_hand" g__law_hand :=
  def_ok (b := b__law_hand) (N := N__law_hand) (ps := ["script"]) (st := s__law_hand) h.d__law_hand sc__law_hand rfl bi__law_hand (bd__law_hand h)
abbrev N_is_tuple_of : List Str := ["thing", "many"]
theorem sc_is_tuple_of : FnScope N_is_tuple_of ["thing", "many"] (defScope s_is_tuple_of) := ⟨rfl, rfl, rfl, by decide +kernel, rfl, by decide +kernel, by decide +kernel⟩
noncomputable def b_is_tuple_of : Sv := (sRet (eAnd (eCall fIsi (aCons (eVar 0) (aCons (eTy .tup) aNil))) (eBin oEq (eCall fLen (aCons (eVar 0) aNil)) (eVar 1))))
noncomputable def g_is_tuple_of : Fn := fnOf 2 b_is_tuple_of
theorem bd_is_tuple_of {P : Program} {w : World} {K : PySem.W.Frag} {mg : Str → Option Value} {base : Heap} (h : Hd τ K mg base) (f : Addr) (cdv : Value) (B : Around) (fs : List PySem.Env) (s : Shared) (H : Hp) (E : XK) (cc : Cc (cxD P w K mg base N_is_tuple_of "is_tuple_of" s_is_tuple_of f cdv B fs s H E) (wD E) 0) : DB τ (cxD P w K mg base N_is_tuple_of "is_tuple_of" s_is_tuple_of f cdv B fs s H E) (wD E) (defBody s_is_tuple_of) b_is_tuple_of :=
  (db_one (ds_ret (de_and (de_callB call_isiX ok_isi (by rfl) h.z_isinstance bb_isinstance (da_cons (de_var 0) (da_cons (de_ty (T := .tup) (by rfl) h.z_tuple bb_tuple) da_nil))) (de_one (de_cmp (op_eqX cc.hu) ok_eq (de_callB call_lenX ok_len (by rfl) h.z_len bb_len (da_cons (de_var 0) da_nil)) (de_var 1) (nomark _))))))
theorem bi_is_tuple_of (kV doc pm : Value) (an : Option Addr) (cdv ct : Value) (us : List Value) (hl : us.length = 2) : bindArgs (PySem.W.fnOf "is_tuple_of" "is_tuple_of" (defArgs s_is_tuple_of) (defBody s_is_tuple_of) (defScope s_is_tuple_of) .none kV doc pm an cdv ct) ⟨us, []⟩ = pure ((["thing", "many"] : List Str).zip us) := match us, hl with | [_, _], _ => rfl
theorem ok_is_tuple_of {P : Program} {w : World} {K : PySem.W.Frag} {mg : Str → Option Value} {base : Heap} (h : Hd τ K mg base) : DefOk τ P w K mg base 1 2 "is_tuple_of" g_is_tuple_of :=
  def_ok (b := b_is_tuple_of) (N := N_is_tuple_of) (ps := ["thing", "many"]) (st := s_is_tuple_of) h.d_is_tuple_of sc_is_tuple_of rfl bi_is_tuple_of (bd_is_tuple_of h)
abbrev N_is_integer : List Str := ["thing"]
theorem sc_is_integer : FnScope N_is_integer ["thing"] (defScope s_is_integer) := ⟨rfl, rfl, rfl, by decide +kernel, rfl, by decide +kernel, by decide +kernel⟩
noncomputable def b_is_integer : Sv := (sRet (eAnd (eCall fIsi (aCons (eVar 0) (aCons (eTy .int) aNil))) (eNot (eCall fIsi (aCons (eVar 0) (aCons (eTy .bool) aNil))))))
noncomputable def g_is_integer : Fn := fnOf 1 b_is_integer
theorem bd_is_integer {P : Program} {w : World} {K : PySem.W.Frag} {mg : Str → Option Value} {base : Heap} (h : Hd τ K mg base) (f : Addr) (cdv : Value) (B : Around) (fs : List PySem.Env) (s : Shared) (H : Hp) (E : XK) (cc : Cc (cxD P w K mg base N_is_integer "is_integer" s_is_integer f cdv B fs s H E) (wD E) 0) : DB τ (cxD P w K mg base N_is_integer "is_integer" s_is_integer f cdv B fs s H E) (wD E) (defBody s_is_integer) b_is_integer :=
  (db_one (ds_ret (de_and (de_callB call_isiX ok_isi (by rfl) h.z_isinstance bb_isinstance (da_cons (de_var 0) (da_cons (de_ty (T := .int) (by rfl) h.z_int bb_int) da_nil))) (de_one (de_not (de_callB call_isiX ok_isi (by rfl) h.z_isinstance bb_isinstance (da_cons (de_var 0) (da_cons (de_ty (T := .bool) (by rfl) h.z_bool bb_bool) da_nil))))))))
theorem bi_is_integer (kV doc pm : Value) (an : Option Addr) (cdv ct : Value) (us : List Value) (hl : us.length = 1) : bindArgs (PySem.W.fnOf "is_integer" "is_integer" (defArgs s_is_integer) (defBody s_is_integer) (defScope s_is_integer) .none kV doc pm an cdv ct) ⟨us, []⟩ = pure ((["thing"] : List Str).zip us) := match us, hl with | [_], _ => rfl
theorem ok_is_integer {P : Program} {w : World} {K : PySem.W.Frag} {mg : Str → Option Value} {base : Heap} (h : Hd τ K mg base) : DefOk τ P w K mg base 1 1 "is_integer" g_is_integer :=
  def_ok (b := b_is_integer) (N := N_is_integer) (ps := ["thing"]) (st := s_is_integer) h.d_is_integer sc_is_integer rfl bi_is_integer (bd_is_integer h)
abbrev N_is_within : List Str := ["thing", "least", "most"]
theorem sc_is_within : FnScope N_is_within ["thing", "least", "most"] (defScope s_is_within) := ⟨rfl, rfl, rfl, by decide +kernel, rfl, by decide +kernel, by decide +kernel⟩
noncomputable def b_is_within : Sv := (sRet (eAnd (eCallN 1 g_is_integer (aCons (eVar 0) aNil)) (eChain oLe oLe (eVar 1) (eVar 0) (eVar 2))))
noncomputable def g_is_within : Fn := fnOf 3 b_is_within
theorem bd_is_within {P : Program} {w : World} {K : PySem.W.Frag} {mg : Str → Option Value} {base : Heap} (h : Hd τ K mg base) (f : Addr) (cdv : Value) (B : Around) (fs : List PySem.Env) (s : Shared) (H : Hp) (E : XK) (cc : Cc (cxD P w K mg base N_is_within "is_within" s_is_within f cdv B fs s H E) (wD E) 1) : DB τ (cxD P w K mg base N_is_within "is_within" s_is_within f cdv B fs s H E) (wD E) (defBody s_is_within) b_is_within :=
  (db_one (ds_ret (de_and (de_callD (ok_is_integer h) cc (by decide) (by rfl) (da_cons (de_var 0) da_nil)) (de_one (de_chain (op_leX cc.hu) ok_le (op_leX cc.hu) ok_le (de_var 1) (de_var 0) (de_var 2))))))
theorem bi_is_within (kV doc pm : Value) (an : Option Addr) (cdv ct : Value) (us : List Value) (hl : us.length = 3) : bindArgs (PySem.W.fnOf "is_within" "is_within" (defArgs s_is_within) (defBody s_is_within) (defScope s_is_within) .none kV doc pm an cdv ct) ⟨us, []⟩ = pure ((["thing", "least", "most"] : List Str).zip us) := match us, hl with | [_, _, _], _ => rfl
theorem ok_is_within {P : Program} {w : World} {K : PySem.W.Frag} {mg : Str → Option Value} {base : Heap} (h : Hd τ K mg base) : DefOk τ P w K mg base 2 3 "is_within" g_is_within :=
  def_ok (b := b_is_within) (N := N_is_within) (ps := ["thing", "least", "most"]) (st := s_is_within) h.d_is_within sc_is_within rfl bi_is_within (bd_is_within h)
abbrev N_is_kind : List Str := ["thing"]
theorem sc_is_kind : FnScope N_is_kind ["thing"] (defScope s_is_kind) := ⟨rfl, rfl, rfl, by decide +kernel, rfl, by decide +kernel, by decide +kernel⟩
noncomputable def b_is_kind : Sv := (sRet (eAnd (eCallN 2 g_is_tuple_of (aCons (eVar 0) (aCons (eD (.int 2)) aNil))) (eAnd (eCallN 3 g_is_within (aCons (eBin oIx (eVar 0) (eD (.int 0))) (aCons (eD (.int 1)) (aCons (eD (.int 100)) aNil)))) (eCallN 3 g_is_within (aCons (eBin oIx (eVar 0) (eD (.int 1))) (aCons (eD (.int 0)) (aCons (eD (.int 40)) aNil)))))))
noncomputable def g_is_kind : Fn := fnOf 1 b_is_kind
theorem bd_is_kind {P : Program} {w : World} {K : PySem.W.Frag} {mg : Str → Option Value} {base : Heap} (h : Hd τ K mg base) (f : Addr) (cdv : Value) (B : Around) (fs : List PySem.Env) (s : Shared) (H : Hp) (E : XK) (cc : Cc (cxD P w K mg base N_is_kind "is_kind" s_is_kind f cdv B fs s H E) (wD E) 2) : DB τ (cxD P w K mg base N_is_kind "is_kind" s_is_kind f cdv B fs s H E) (wD E) (defBody s_is_kind) b_is_kind :=
  (db_one (ds_ret (de_and (de_callD (ok_is_tuple_of h) cc (by decide) (by rfl) (da_cons (de_var 0) (da_cons de_int da_nil))) (de_and (de_callD (ok_is_within h) cc (by decide) (by rfl) (da_cons (de_ix (j := 0) (de_var 0) de_int) (da_cons de_int (da_cons (de_conI h.c_MOST_NOISE (by rfl)) da_nil)))) (de_one (de_callD (ok_is_within h) cc (by decide) (by rfl) (da_cons (de_ix (j := 0) (de_var 0) de_int) (da_cons de_int (da_cons (de_conI h.c_MOST_WANTED (by rfl)) da_nil)))))))))
theorem bi_is_kind (kV doc pm : Value) (an : Option Addr) (cdv ct : Value) (us : List Value) (hl : us.length = 1) : bindArgs (PySem.W.fnOf "is_kind" "is_kind" (defArgs s_is_kind) (defBody s_is_kind) (defScope s_is_kind) .none kV doc pm an cdv ct) ⟨us, []⟩ = pure ((["thing"] : List Str).zip us) := match us, hl with | [_], _ => rfl
theorem ok_is_kind {P : Program} {w : World} {K : PySem.W.Frag} {mg : Str → Option Value} {base : Heap} (h : Hd τ K mg base) : DefOk τ P w K mg base 3 1 "is_kind" g_is_kind :=
  def_ok (b := b_is_kind) (N := N_is_kind) (ps := ["thing"]) (st := s_is_kind) h.d_is_kind sc_is_kind rfl bi_is_kind (bd_is_kind h)
abbrev N_check_kinds : List Str := ["kinds", "one"]
theorem sc_check_kinds : FnScope N_check_kinds ["kinds"] (defScope s_check_kinds) := ⟨rfl, rfl, rfl, by decide +kernel, rfl, by decide +kernel, by decide +kernel⟩
noncomputable def l0_check_kinds : Ev := (eCallN 1 g_is_kind (aCons (eVar 1) aNil))
noncomputable def b_check_kinds : Sv := (sIf (tOr (tNot (tOf (eCall fIsi (aCons (eVar 0) (aCons (eTy .tup) aNil))))) (tOr (tNot (tOf (eChain oLe oLe (eD (.int 1)) (eCall fLen (aCons (eVar 0) aNil)) (eD (.int 6))))) (tNot (tOf (eCall fAll (aCons (eLc false (iSeq (eVar 0)) (gN 1) tYesD l0_check_kinds [1]) aNil))))))
  (sRaise "NoKinds")
  sNil)
noncomputable def g_check_kinds : Fn := fnOf 2 b_check_kinds
theorem bd_check_kinds {P : Program} {w : World} {K : PySem.W.Frag} {mg : Str → Option Value} {base : Heap} (h : Hd τ K mg base) (f : Addr) (cdv : Value) (B : Around) (fs : List PySem.Env) (s : Shared) (H : Hp) (E : XK) (cc : Cc (cxD P w K mg base N_check_kinds "check_kinds" s_check_kinds f cdv B fs s H E) (wD E) 3) : DB τ (cxD P w K mg base N_check_kinds "check_kinds" s_check_kinds f cdv B fs s H E) (wD E) (defBody s_check_kinds) b_check_kinds :=
  (db_one (ds_if (DW.t (dw_or (dt_not (dt_val (de_callB call_isiX ok_isi (by rfl) h.z_isinstance bb_isinstance (da_cons (de_var 0) (da_cons (de_ty (T := .tup) (by rfl) h.z_tuple bb_tuple) da_nil))))) (dw_or (dt_not (dt_chain (op_leX cc.hu) ok_le (op_leX cc.hu) ok_le de_int (de_callB call_lenX ok_len (by rfl) h.z_len bb_len (da_cons (de_var 0) da_nil)) (de_conI h.c_MOST_KINDS (by rfl)))) (dw_or1 (dt_not (dt_val (de_callB (call_allX cc.calm) ok_allF (by rfl) h.z_all bb_all (da_cons (de_lc false cc (di_seq (de_var 0)) (blkOk_by (N := N_check_kinds) (sc := defScope s_check_kinds) (own := [("one", 1)]) (by decide +kernel)) (fun _ _ _ _ _ => (dg_name 1 cc.blk.nd rfl (.inl rfl))) (fun _ _ _ _ _ => dts_nil) (fun _ _ _ _ _ => (de_callD (ok_is_kind h) cc.blk (by decide) (by rfl) (da_cons (de_var 1) da_nil)))) da_nil))))))))
  (db_one (ds_raise0 cc h.e_NoKinds (by rfl)))
  db_nil))
theorem bi_check_kinds (kV doc pm : Value) (an : Option Addr) (cdv ct : Value) (us : List Value) (hl : us.length = 1) : bindArgs (PySem.W.fnOf "check_kinds" "check_kinds" (defArgs s_check_kinds) (defBody s_check_kinds) (defScope s_check_kinds) .none kV doc pm an cdv ct) ⟨us, []⟩ = pure ((["kinds"] : List Str).zip us) := match us, hl with | [_], _ => rfl
theorem ok_check_kinds {P : Program} {w : World} {K : PySem.W.Frag} {mg : Str → Option Value} {base : Heap} (h : Hd τ K mg base) : DefOk τ P w K mg base 4 1 "check_kinds" g_check_kinds :=
  def_ok (b := b_check_kinds) (N := N_check_kinds) (ps := ["kinds"]) (st := s_check_kinds) h.d_check_kinds sc_check_kinds rfl bi_check_kinds (bd_check_kinds h)
abbrev N_check_both : List Str := ["kinds", "noise"]
theorem sc_check_both : FnScope N_check_both ["kinds", "noise"] (defScope s_check_both) := ⟨rfl, rfl, rfl, by decide +kernel, rfl, by decide +kernel, by decide +kernel⟩
noncomputable def b_check_both : Sv := (sCons (sExpr (eCallN 1 g_check_kinds (aCons (eVar 0) aNil)))
  (sIf (tNot (tOf (eCallN 3 g_is_within (aCons (eVar 1) (aCons (eD (.int 0)) (aCons (eD (.int 4000)) aNil))))))
  (sRaise "NoNumber")
  sNil))
noncomputable def g_check_both : Fn := fnOf 2 b_check_both
theorem bd_check_both {P : Program} {w : World} {K : PySem.W.Frag} {mg : Str → Option Value} {base : Heap} (h : Hd τ K mg base) (f : Addr) (cdv : Value) (B : Around) (fs : List PySem.Env) (s : Shared) (H : Hp) (E : XK) (cc : Cc (cxD P w K mg base N_check_both "check_both" s_check_both f cdv B fs s H E) (wD E) 4) : DB τ (cxD P w K mg base N_check_both "check_both" s_check_both f cdv B fs s H E) (wD E) (defBody s_check_both) b_check_both :=
  (db_cons (ds_expr (de_callD (ok_check_kinds h) cc (by decide) (by rfl) (da_cons (de_var 0) da_nil)))
  (db_one (ds_if (dt_not (dt_val (de_callD (ok_is_within h) cc (by decide) (by rfl) (da_cons (de_var 1) (da_cons de_int (da_cons (de_conI h.c_MOST_ALL (by rfl)) da_nil))))))
  (db_one (ds_raise0 cc h.e_NoNumber (by rfl)))
  db_nil)))
theorem bi_check_both (kV doc pm : Value) (an : Option Addr) (cdv ct : Value) (us : List Value) (hl : us.length = 2) : bindArgs (PySem.W.fnOf "check_both" "check_both" (defArgs s_check_both) (defBody s_check_both) (defScope s_check_both) .none kV doc pm an cdv ct) ⟨us, []⟩ = pure ((["kinds", "noise"] : List Str).zip us) := match us, hl with | [_, _], _ => rfl
theorem ok_check_both {P : Program} {w : World} {K : PySem.W.Frag} {mg : Str → Option Value} {base : Heap} (h : Hd τ K mg base) : DefOk τ P w K mg base 5 2 "check_both" g_check_both :=
  def_ok (b := b_check_both) (N := N_check_both) (ps := ["kinds", "noise"]) (st := s_check_both) h.d_check_both sc_check_both rfl bi_check_both (bd_check_both h)
abbrev N_raw_quiet : List Str := ["kinds", "noise", "found", "left", "loud", "at", "wanted"]
theorem sc_raw_quiet : FnScope N_raw_quiet ["kinds", "noise"] (defScope s_raw_quiet) := ⟨rfl, rfl, rfl, by decide +kernel, rfl, by decide +kernel, by decide +kernel⟩
noncomputable def l0_raw_quiet : Ev := (eTup (aCons (eVar 4) (aCons (eVar 5) aNil)))
noncomputable def l1_raw_quiet : Sv := (sCons (sPut (eVar 2) (eVar 5) (eCall fMin2 (aCons (eBin oIx (eBin oIx (eVar 0) (eVar 5)) (eD (.int 1))) (aCons (eBin oDiv (eVar 3) (eVar 4)) aNil))))
  (sAug 3 oSub (eBin (oMul false) (eBin oIx (eVar 2) (eVar 5)) (eVar 4))))
noncomputable def b_raw_quiet : Sv := (sCons (sPar [(gN 2), (gN 3)] (aCons (eBin (oMul true) (eLst false (aCons (eD (.int 0)) aNil)) (eCall fLen (aCons (eVar 0) aNil))) (aCons (eVar 1) aNil)))
  (sCons (sFor (iSeq (eCall (fSortL false) (aCons (eLc false (iEnumD (eVar 0)) (gT [(gN 5), (gT [(gN 4), (gN 6)])]) tYesD l0_raw_quiet [5, 4, 6]) aNil))) (gT [(gN 4), (gN 5)]) l1_raw_quiet)
  (sRet (eCall fTuple (aCons (eVar 2) aNil)))))
noncomputable def g_raw_quiet : Fn := fnOf 7 b_raw_quiet
theorem bd_raw_quiet {P : Program} {w : World} {K : PySem.W.Frag} {mg : Str → Option Value} {base : Heap} (h : Hd τ K mg base) (f : Addr) (cdv : Value) (B : Around) (fs : List PySem.Env) (s : Shared) (H : Hp) (E : XK) (cc : Cc (cxD P w K mg base N_raw_quiet "raw_quiet" s_raw_quiet f cdv B fs s H E) (wD E) 0) : DB τ (cxD P w K mg base N_raw_quiet "raw_quiet" s_raw_quiet f cdv B fs s H E) (wD E) (defBody s_raw_quiet) b_raw_quiet :=
  (db_cons (ds_par2 2 3 cc.calm cc.nd rfl rfl (by decide) rfl rfl (da_cons (de_bin op_mulX' ok_mul (de_lst false (da_cons de_int da_nil)) (de_callB call_lenX ok_len (by rfl) h.z_len bb_len (da_cons (de_var 0) da_nil))) (da_cons (de_var 1) da_nil)))
  (db_cons (ds_for cc (di_seq (de_callB (call_sortL cc.hu) ok_sortL (by rfl) h.z_sorted bb_sorted (da_cons (de_lc false cc (di_enum (by rfl) h.z_enumerate (da_cons (de_var 0) da_nil)) (blkOk_by (N := N_raw_quiet) (sc := defScope s_raw_quiet) (own := [("at", 5), ("loud", 4), ("wanted", 6)]) (by decide +kernel)) (fun _ _ _ _ _ => (dg_tup cc.blk.calm (dgs_cons (dg_name 5 cc.blk.nd rfl (.inl rfl)) (dgs_cons (dg_tup cc.blk.calm (dgs_cons (dg_name 4 cc.blk.nd rfl (.inl rfl)) (dgs_cons (dg_name 6 cc.blk.nd rfl (.inl rfl)) dgs_nil))) dgs_nil)))) (fun _ _ _ _ _ => dts_nil) (fun _ _ _ _ _ => (de_tup (da_cons (de_var 4) (da_cons (de_var 5) da_nil))))) da_nil))) (dg_tup cc.calm (dgs_cons (dg_name 4 cc.nd rfl (.inl rfl)) (dgs_cons (dg_name 5 cc.nd rfl (.inl rfl)) dgs_nil)))
  (db_cons (ds_put (de_var 2) (de_var 5) (de_callB (call_min2 cc.calm) ok_min2 (by rfl) h.z_min bb_min (da_cons (de_ix (j := 0) (de_ix (j := 0) (de_var 0) (de_var 5)) de_int) (da_cons (de_bin op_divX ok_div (de_var 3) (de_var 4)) da_nil))))
  (db_one (ds_aug 3 cc.nd rfl (.inl rfl) (de_bin op_mulX' ok_mul (de_ix (j := 0) (de_var 2) (de_var 5)) (de_var 4)) L2.iop_sub ok_sub))))
  (db_one (ds_ret (de_callTy call_tuple_of ok_tuple (by rfl) h.z_tuple bb_tuple (da_cons (de_var 2) da_nil))))))
theorem bi_raw_quiet (kV doc pm : Value) (an : Option Addr) (cdv ct : Value) (us : List Value) (hl : us.length = 2) : bindArgs (PySem.W.fnOf "raw_quiet" "raw_quiet" (defArgs s_raw_quiet) (defBody s_raw_quiet) (defScope s_raw_quiet) .none kV doc pm an cdv ct) ⟨us, []⟩ = pure ((["kinds", "noise"] : List Str).zip us) := match us, hl with | [_, _], _ => rfl
theorem ok_raw_quiet {P : Program} {w : World} {K : PySem.W.Frag} {mg : Str → Option Value} {base : Heap} (h : Hd τ K mg base) : DefOk τ P w K mg base 1 2 "raw_quiet" g_raw_quiet :=
  def_ok (b := b_raw_quiet) (N := N_raw_quiet) (ps := ["kinds", "noise"]) (st := s_raw_quiet) h.d_raw_quiet sc_raw_quiet rfl bi_raw_quiet (bd_raw_quiet h)
abbrev N_most_flights : List Str := ["kinds", "noise"]
theorem sc_most_flights : FnScope N_most_flights ["kinds", "noise"] (defScope s_most_flights) := ⟨rfl, rfl, rfl, by decide +kernel, rfl, by decide +kernel, by decide +kernel⟩
noncomputable def b_most_flights : Sv := (sCons (sExpr (eCallN 2 g_check_both (aCons (eVar 0) (aCons (eVar 1) aNil))))
  (sRet (eCall fSumX (aCons (eCallN 2 g_raw_quiet (aCons (eVar 0) (aCons (eVar 1) aNil))) aNil))))
noncomputable def g_most_flights : Fn := fnOf 2 b_most_flights
theorem bd_most_flights {P : Program} {w : World} {K : PySem.W.Frag} {mg : Str → Option Value} {base : Heap} (h : Hd τ K mg base) (f : Addr) (cdv : Value) (B : Around) (fs : List PySem.Env) (s : Shared) (H : Hp) (E : XK) (cc : Cc (cxD P w K mg base N_most_flights "most_flights" s_most_flights f cdv B fs s H E) (wD E) 5) : DB τ (cxD P w K mg base N_most_flights "most_flights" s_most_flights f cdv B fs s H E) (wD E) (defBody s_most_flights) b_most_flights :=
  (db_cons (ds_expr (de_callD (ok_check_both h) cc (by decide) (by rfl) (da_cons (de_var 0) (da_cons (de_var 1) da_nil))))
  (db_one (ds_ret (de_callB (call_sumX cc.calm) ok_sumX (by rfl) h.z_sum bb_sum (da_cons (de_callD (ok_raw_quiet h) cc (by decide) (by rfl) (da_cons (de_var 0) (da_cons (de_var 1) da_nil))) da_nil)))))
theorem bi_most_flights (kV doc pm : Value) (an : Option Addr) (cdv ct : Value) (us : List Value) (hl : us.length = 2) : bindArgs (PySem.W.fnOf "most_flights" "most_flights" (defArgs s_most_flights) (defBody s_most_flights) (defScope s_most_flights) .none kV doc pm an cdv ct) ⟨us, []⟩ = pure ((["kinds", "noise"] : List Str).zip us) := match us, hl with | [_, _], _ => rfl
theorem ok_most_flights {P : Program} {w : World} {K : PySem.W.Frag} {mg : Str → Option Value} {base : Heap} (h : Hd τ K mg base) : DefOk τ P w K mg base 6 2 "most_flights" g_most_flights :=
  def_ok (b := b_most_flights) (N := N_most_flights) (ps := ["kinds", "noise"]) (st := s_most_flights) h.d_most_flights sc_most_flights rfl bi_most_flights (bd_most_flights h)
abbrev N_quiet_flights : List Str := ["kinds", "noise"]
theorem sc_quiet_flights : FnScope N_quiet_flights ["kinds", "noise"] (defScope s_quiet_flights) := ⟨rfl, rfl, rfl, by decide +kernel, rfl, by decide +kernel, by decide +kernel⟩
noncomputable def b_quiet_flights : Sv := (sCons (sExpr (eCallN 2 g_check_both (aCons (eVar 0) (aCons (eVar 1) aNil))))
  (sRet (eCallN 2 g_raw_quiet (aCons (eVar 0) (aCons (eVar 1) aNil)))))
noncomputable def g_quiet_flights : Fn := fnOf 2 b_quiet_flights
theorem bd_quiet_flights {P : Program} {w : World} {K : PySem.W.Frag} {mg : Str → Option Value} {base : Heap} (h : Hd τ K mg base) (f : Addr) (cdv : Value) (B : Around) (fs : List PySem.Env) (s : Shared) (H : Hp) (E : XK) (cc : Cc (cxD P w K mg base N_quiet_flights "quiet_flights" s_quiet_flights f cdv B fs s H E) (wD E) 5) : DB τ (cxD P w K mg base N_quiet_flights "quiet_flights" s_quiet_flights f cdv B fs s H E) (wD E) (defBody s_quiet_flights) b_quiet_flights :=
  (db_cons (ds_expr (de_callD (ok_check_both h) cc (by decide) (by rfl) (da_cons (de_var 0) (da_cons (de_var 1) da_nil))))
  (db_one (ds_ret (de_callD (ok_raw_quiet h) cc (by decide) (by rfl) (da_cons (de_var 0) (da_cons (de_var 1) da_nil))))))
theorem bi_quiet_flights (kV doc pm : Value) (an : Option Addr) (cdv ct : Value) (us : List Value) (hl : us.length = 2) : bindArgs (PySem.W.fnOf "quiet_flights" "quiet_flights" (defArgs s_quiet_flights) (defBody s_quiet_flights) (defScope s_quiet_flights) .none kV doc pm an cdv ct) ⟨us, []⟩ = pure ((["kinds", "noise"] : List Str).zip us) := match us, hl with | [_, _], _ => rfl
theorem ok_quiet_flights {P : Program} {w : World} {K : PySem.W.Frag} {mg : Str → Option Value} {base : Heap} (h : Hd τ K mg base) : DefOk τ P w K mg base 6 2 "quiet_flights" g_quiet_flights :=
  def_ok (b := b_quiet_flights) (N := N_quiet_flights) (ps := ["kinds", "noise"]) (st := s_quiet_flights) h.d_quiet_flights sc_quiet_flights rfl bi_quiet_flights (bd_quiet_flights h)
abbrev N_ways_to : List Str := ["kinds", "noise", "ways", "loud", "wanted", "later", "many", "total"]
theorem sc_ways_to : FnScope N_ways_to ["kinds", "noise"] (defScope s_ways_to) := ⟨rfl, rfl, rfl, by decide +kernel, rfl, by decide +kernel, by decide +kernel⟩
noncomputable def l0_ways_to : Sv := (sAddPut (eVar 5) (eVar 7) (eBin oIx (eVar 2) (eBin oSub (eVar 7) (eBin (oMul false) (eVar 3) (eVar 6)))))
noncomputable def l1_ways_to : Sv := (sFor (iRange (aCons (eBin (oMul false) (eVar 3) (eVar 6)) (aCons (eBin (oAdd false) (eVar 1) (eD (.int 1))) aNil))) (gN 7) l0_ways_to)
noncomputable def l2_ways_to : Sv := (sCons (sSet 5 (eBin (oMul true) (eLst false (aCons (eD (.int 0)) aNil)) (eBin (oAdd false) (eVar 1) (eD (.int 1)))))
  (sCons (sFor (iRange (aCons (eBin (oAdd false) (eVar 4) (eD (.int 1))) aNil)) (gN 6) l1_ways_to)
  (sSet 2 (eVar 5))))
noncomputable def b_ways_to : Sv := (sCons (sSet 2 (eBin (oAdd false) (eLst false (aCons (eD (.int 1)) aNil)) (eBin (oMul false) (eLst false (aCons (eD (.int 0)) aNil)) (eVar 1))))
  (sCons (sFor (iSeq (eVar 0)) (gT [(gN 3), (gN 4)]) l2_ways_to)
  (sRet (eVar 2))))
noncomputable def g_ways_to : Fn := fnOf 8 b_ways_to
theorem bd_ways_to {P : Program} {w : World} {K : PySem.W.Frag} {mg : Str → Option Value} {base : Heap} (h : Hd τ K mg base) (f : Addr) (cdv : Value) (B : Around) (fs : List PySem.Env) (s : Shared) (H : Hp) (E : XK) (cc : Cc (cxD P w K mg base N_ways_to "ways_to" s_ways_to f cdv B fs s H E) (wD E) 0) : DB τ (cxD P w K mg base N_ways_to "ways_to" s_ways_to f cdv B fs s H E) (wD E) (defBody s_ways_to) b_ways_to :=
  (db_cons (ds_set 2 cc.nd rfl (.inl rfl) (de_bin op_addX ok_add (de_lst false (da_cons de_int da_nil)) (de_bin op_mulX' ok_mul (de_lst false (da_cons de_int da_nil)) (de_var 1))))
  (db_cons (ds_for cc (di_seq (de_var 0)) (dg_tup cc.calm (dgs_cons (dg_name 3 cc.nd rfl (.inl rfl)) (dgs_cons (dg_name 4 cc.nd rfl (.inl rfl)) dgs_nil)))
  (db_cons (ds_set 5 cc.nd rfl (.inl rfl) (de_bin op_mulX' ok_mul (de_lst false (da_cons de_int da_nil)) (de_bin op_addX ok_add (de_var 1) de_int)))
  (db_cons (ds_for cc (di_range1 (by rfl) h.z_range (da_cons (de_bin op_addX ok_add (de_var 4) de_int) da_nil)) (dg_name 6 cc.nd rfl (.inl rfl))
  (db_one (ds_for cc (di_range2 (by rfl) h.z_range (da_cons (de_bin op_mulX' ok_mul (de_var 3) (de_var 6)) (da_cons (de_bin op_addX ok_add (de_var 1) de_int) da_nil))) (dg_name 7 cc.nd rfl (.inl rfl))
  (db_one (ds_addPut (de_var 5) (de_var 7) (de_ix (j := 0) (de_var 2) (de_bin op_sub ok_sub (de_var 7) (de_bin op_mulX' ok_mul (de_var 3) (de_var 6)))))))))
  (db_one (ds_set 2 cc.nd rfl (.inl rfl) (de_var 5))))))
  (db_one (ds_ret (de_var 2)))))
theorem bi_ways_to (kV doc pm : Value) (an : Option Addr) (cdv ct : Value) (us : List Value) (hl : us.length = 2) : bindArgs (PySem.W.fnOf "ways_to" "ways_to" (defArgs s_ways_to) (defBody s_ways_to) (defScope s_ways_to) .none kV doc pm an cdv ct) ⟨us, []⟩ = pure ((["kinds", "noise"] : List Str).zip us) := match us, hl with | [_, _], _ => rfl
theorem ok_ways_to {P : Program} {w : World} {K : PySem.W.Frag} {mg : Str → Option Value} {base : Heap} (h : Hd τ K mg base) : DefOk τ P w K mg base 1 2 "ways_to" g_ways_to :=
  def_ok (b := b_ways_to) (N := N_ways_to) (ps := ["kinds", "noise"]) (st := s_ways_to) h.d_ways_to sc_ways_to rfl bi_ways_to (bd_ways_to h)
abbrev N_loudest : List Str := ["kinds", "noise", "total", "many"]
theorem sc_loudest : FnScope N_loudest ["kinds", "noise"] (defScope s_loudest) := ⟨rfl, rfl, rfl, by decide +kernel, rfl, by decide +kernel, by decide +kernel⟩
noncomputable def l0_loudest : Ev := (eVar 2)
noncomputable def l1_loudest : Tv := (tOf (eBin oGt (eVar 3) (eD (.int 0))))
noncomputable def b_loudest : Sv := (sCons (sExpr (eCallN 2 g_check_both (aCons (eVar 0) (aCons (eVar 1) aNil))))
  (sRet (eCall fMax1 (aCons (eLc false (iEnumD (eCallN 2 g_ways_to (aCons (eVar 0) (aCons (eVar 1) aNil)))) (gT [(gN 2), (gN 3)]) l1_loudest l0_loudest [2, 3]) aNil))))
noncomputable def g_loudest : Fn := fnOf 4 b_loudest
theorem bd_loudest {P : Program} {w : World} {K : PySem.W.Frag} {mg : Str → Option Value} {base : Heap} (h : Hd τ K mg base) (f : Addr) (cdv : Value) (B : Around) (fs : List PySem.Env) (s : Shared) (H : Hp) (E : XK) (cc : Cc (cxD P w K mg base N_loudest "loudest" s_loudest f cdv B fs s H E) (wD E) 5) : DB τ (cxD P w K mg base N_loudest "loudest" s_loudest f cdv B fs s H E) (wD E) (defBody s_loudest) b_loudest :=
  (db_cons (ds_expr (de_callD (ok_check_both h) cc (by decide) (by rfl) (da_cons (de_var 0) (da_cons (de_var 1) da_nil))))
  (db_one (ds_ret (de_callB (call_max1X cc.calm cc.hu) ok_max1 (by rfl) h.z_max bb_max (da_cons (de_lc false cc (di_enum (by rfl) h.z_enumerate (da_cons (de_callD (ok_ways_to h) cc (by decide) (by rfl) (da_cons (de_var 0) (da_cons (de_var 1) da_nil))) da_nil)) (blkOk_by (N := N_loudest) (sc := defScope s_loudest) (own := [("total", 2), ("many", 3)]) (by decide +kernel)) (fun _ _ _ _ _ => (dg_tup cc.blk.calm (dgs_cons (dg_name 2 cc.blk.nd rfl (.inl rfl)) (dgs_cons (dg_name 3 cc.blk.nd rfl (.inl rfl)) dgs_nil)))) (fun _ _ _ _ _ => (dts_one (dt_cmp (op_gtX cc.blk.hu) ok_gt (de_var 3) de_int (nomark _)))) (fun _ _ _ _ _ => (de_var 2))) da_nil)))))
theorem bi_loudest (kV doc pm : Value) (an : Option Addr) (cdv ct : Value) (us : List Value) (hl : us.length = 2) : bindArgs (PySem.W.fnOf "loudest" "loudest" (defArgs s_loudest) (defBody s_loudest) (defScope s_loudest) .none kV doc pm an cdv ct) ⟨us, []⟩ = pure ((["kinds", "noise"] : List Str).zip us) := match us, hl with | [_, _], _ => rfl
theorem ok_loudest {P : Program} {w : World} {K : PySem.W.Frag} {mg : Str → Option Value} {base : Heap} (h : Hd τ K mg base) : DefOk τ P w K mg base 6 2 "loudest" g_loudest :=
  def_ok (b := b_loudest) (N := N_loudest) (ps := ["kinds", "noise"]) (st := s_loudest) h.d_loudest sc_loudest rfl bi_loudest (bd_loudest h)
abbrev N_ways_many : List Str := ["kinds", "noise"]
theorem sc_ways_many : FnScope N_ways_many ["kinds", "noise"] (defScope s_ways_many) := ⟨rfl, rfl, rfl, by decide +kernel, rfl, by decide +kernel, by decide +kernel⟩
noncomputable def b_ways_many : Sv := (sCons (sExpr (eCallN 2 g_check_both (aCons (eVar 0) (aCons (eVar 1) aNil))))
  (sRet (eCall fSumX (aCons (eCallN 2 g_ways_to (aCons (eVar 0) (aCons (eVar 1) aNil))) aNil))))
noncomputable def g_ways_many : Fn := fnOf 2 b_ways_many
theorem bd_ways_many {P : Program} {w : World} {K : PySem.W.Frag} {mg : Str → Option Value} {base : Heap} (h : Hd τ K mg base) (f : Addr) (cdv : Value) (B : Around) (fs : List PySem.Env) (s : Shared) (H : Hp) (E : XK) (cc : Cc (cxD P w K mg base N_ways_many "ways_many" s_ways_many f cdv B fs s H E) (wD E) 5) : DB τ (cxD P w K mg base N_ways_many "ways_many" s_ways_many f cdv B fs s H E) (wD E) (defBody s_ways_many) b_ways_many :=
  (db_cons (ds_expr (de_callD (ok_check_both h) cc (by decide) (by rfl) (da_cons (de_var 0) (da_cons (de_var 1) da_nil))))
  (db_one (ds_ret (de_callB (call_sumX cc.calm) ok_sumX (by rfl) h.z_sum bb_sum (da_cons (de_callD (ok_ways_to h) cc (by decide) (by rfl) (da_cons (de_var 0) (da_cons (de_var 1) da_nil))) da_nil)))))
theorem bi_ways_many (kV doc pm : Value) (an : Option Addr) (cdv ct : Value) (us : List Value) (hl : us.length = 2) : bindArgs (PySem.W.fnOf "ways_many" "ways_many" (defArgs s_ways_many) (defBody s_ways_many) (defScope s_ways_many) .none kV doc pm an cdv ct) ⟨us, []⟩ = pure ((["kinds", "noise"] : List Str).zip us) := match us, hl with | [_, _], _ => rfl
theorem ok_ways_many {P : Program} {w : World} {K : PySem.W.Frag} {mg : Str → Option Value} {base : Heap} (h : Hd τ K mg base) : DefOk τ P w K mg base 6 2 "ways_many" g_ways_many :=
  def_ok (b := b_ways_many) (N := N_ways_many) (ps := ["kinds", "noise"]) (st := s_ways_many) h.d_ways_many sc_ways_many rfl bi_ways_many (bd_ways_many h)
abbrev N__law_is : List Str := ["got", "due", "one", "other"]
theorem sc__law_is : FnScope N__law_is ["got", "due"] (defScope s__law_is) := ⟨rfl, rfl, rfl, by decide +kernel, rfl, by decide +kernel, by decide +kernel⟩
noncomputable def l0__law_is (rc : Fn) : Ev := (eCallN 2 rc (aCons (eVar 2) (aCons (eVar 3) aNil)))
noncomputable def b__law_is (rc : Fn) : Sv := (sCons (sIf (tOr (tOf (eCall fIsi (aCons (eVar 1) (aCons (eTy .tup) aNil)))) (tOf (eCall fIsi (aCons (eVar 1) (aCons (eTy .lst) aNil)))))
  (sCons (sIf (tOr (tOf (eBin oNe (eCall fIsi (aCons (eVar 0) (aCons (eTy .tup) aNil))) (eCall fIsi (aCons (eVar 1) (aCons (eTy .tup) aNil))))) (tOf (eBin oNe (eCall fIsi (aCons (eVar 0) (aCons (eTy .lst) aNil))) (eCall fIsi (aCons (eVar 1) (aCons (eTy .lst) aNil))))))
  (sRet (eD (.bool false)))
  sNil)
  (sRet (eAnd (eBin oEq (eCall fLen (aCons (eVar 0) aNil)) (eCall fLen (aCons (eVar 1) aNil))) (eCall fAll (aCons (eLc false (iZipX (aCons (eVar 0) (aCons (eVar 1) aNil))) (gT [(gN 2), (gN 3)]) tYesD (l0__law_is rc) [2, 3]) aNil)))))
  sNil)
  (sCons (sIf (tOr (tOf (eBin (oIs false) (eVar 1) (eD .none))) (tOf (eBin (oIs false) (eVar 0) (eD .none))))
  (sRet (eAnd (eBin (oIs false) (eVar 1) (eD .none)) (eBin (oIs false) (eVar 0) (eD .none))))
  sNil)
  (sCons (sIf (tOr (tOf (eBin oNe (eCall fIsi (aCons (eVar 0) (aCons (eTy .bool) aNil))) (eCall fIsi (aCons (eVar 1) (aCons (eTy .bool) aNil))))) (tOf (eBin oNe (eCall fIsi (aCons (eVar 0) (aCons (eTy .int) aNil))) (eCall fIsi (aCons (eVar 1) (aCons (eTy .int) aNil))))))
  (sRet (eD (.bool false)))
  sNil)
  (sRet (eAnd (eBin oEq (eCall fIsi (aCons (eVar 0) (aCons (eTy .str) aNil))) (eCall fIsi (aCons (eVar 1) (aCons (eTy .str) aNil)))) (eBin oEq (eVar 0) (eVar 1)))))))
noncomputable def g__law_is : Nat → Fn
  | 0 => gBad
  | m + 1 => fnOf 4 (b__law_is (g__law_is m))
theorem bd__law_is {P : Program} {w : World} {K : PySem.W.Frag} {mg : Str → Option Value} {base : Heap} (h : Hd τ K mg base) (m : Nat) (rc : Fn) (ih : DefOk τ P w K mg base (0 + m) 2 "_law_is" rc) (f : Addr) (cdv : Value) (B : Around) (fs : List PySem.Env) (s : Shared) (H : Hp) (E : XK) (cc : Cc (cxD P w K mg base N__law_is "_law_is" s__law_is f cdv B fs s H E) (wD E) (0 + m)) : DB τ (cxD P w K mg base N__law_is "_law_is" s__law_is f cdv B fs s H E) (wD E) (defBody s__law_is) (b__law_is rc) :=
  (db_cons (ds_if (DW.t (dw_or (dt_val (de_callB call_isiX ok_isi (by rfl) h.z_isinstance bb_isinstance (da_cons (de_var 1) (da_cons (de_ty (T := .tup) (by rfl) h.z_tuple bb_tuple) da_nil)))) (dw_or1 (dt_val (de_callB call_isiX ok_isi (by rfl) h.z_isinstance bb_isinstance (da_cons (de_var 1) (da_cons (de_ty (T := .lst) (by rfl) h.z_list bb_list) da_nil)))))))
  (db_cons (ds_if (DW.t (dw_or (dt_cmp (op_neX cc.hu) ok_ne (de_callB call_isiX ok_isi (by rfl) h.z_isinstance bb_isinstance (da_cons (de_var 0) (da_cons (de_ty (T := .tup) (by rfl) h.z_tuple bb_tuple) da_nil))) (de_callB call_isiX ok_isi (by rfl) h.z_isinstance bb_isinstance (da_cons (de_var 1) (da_cons (de_ty (T := .tup) (by rfl) h.z_tuple bb_tuple) da_nil))) (nomark _)) (dw_or1 (dt_cmp (op_neX cc.hu) ok_ne (de_callB call_isiX ok_isi (by rfl) h.z_isinstance bb_isinstance (da_cons (de_var 0) (da_cons (de_ty (T := .lst) (by rfl) h.z_list bb_list) da_nil))) (de_callB call_isiX ok_isi (by rfl) h.z_isinstance bb_isinstance (da_cons (de_var 1) (da_cons (de_ty (T := .lst) (by rfl) h.z_list bb_list) da_nil))) (nomark _)))))
  (db_one (ds_ret de_bl))
  db_nil)
  (db_one (ds_ret (de_and (de_cmp (op_eqX cc.hu) ok_eq (de_callB call_lenX ok_len (by rfl) h.z_len bb_len (da_cons (de_var 0) da_nil)) (de_callB call_lenX ok_len (by rfl) h.z_len bb_len (da_cons (de_var 1) da_nil)) (nomark _)) (de_one (de_callB (call_allX cc.calm) ok_allF (by rfl) h.z_all bb_all (da_cons (de_lc false cc (di_zipX (by rfl) h.z_zip (da_cons (de_var 0) (da_cons (de_var 1) da_nil))) (blkOk_by (N := N__law_is) (sc := defScope s__law_is) (own := [("one", 2), ("other", 3)]) (by decide +kernel)) (fun _ _ _ _ _ => (dg_tup cc.blk.calm (dgs_cons (dg_name 2 cc.blk.nd rfl (.inl rfl)) (dgs_cons (dg_name 3 cc.blk.nd rfl (.inl rfl)) dgs_nil)))) (fun _ _ _ _ _ => dts_nil) (fun _ _ _ _ _ => (de_callD ih cc.blk (Nat.le_refl _) (by rfl) (da_cons (de_var 2) (da_cons (de_var 3) da_nil))))) da_nil)))))))
  db_nil)
  (db_cons (ds_if (DW.t (dw_or (dt_cmp op_isX ok_is (de_var 1) de_non (nomark _)) (dw_or1 (dt_cmp op_isX ok_is (de_var 0) de_non (nomark _)))))
  (db_one (ds_ret (de_and (de_cmp op_isX ok_is (de_var 1) de_non (nomark _)) (de_one (de_cmp op_isX ok_is (de_var 0) de_non (nomark _))))))
  db_nil)
  (db_cons (ds_if (DW.t (dw_or (dt_cmp (op_neX cc.hu) ok_ne (de_callB call_isiX ok_isi (by rfl) h.z_isinstance bb_isinstance (da_cons (de_var 0) (da_cons (de_ty (T := .bool) (by rfl) h.z_bool bb_bool) da_nil))) (de_callB call_isiX ok_isi (by rfl) h.z_isinstance bb_isinstance (da_cons (de_var 1) (da_cons (de_ty (T := .bool) (by rfl) h.z_bool bb_bool) da_nil))) (nomark _)) (dw_or1 (dt_cmp (op_neX cc.hu) ok_ne (de_callB call_isiX ok_isi (by rfl) h.z_isinstance bb_isinstance (da_cons (de_var 0) (da_cons (de_ty (T := .int) (by rfl) h.z_int bb_int) da_nil))) (de_callB call_isiX ok_isi (by rfl) h.z_isinstance bb_isinstance (da_cons (de_var 1) (da_cons (de_ty (T := .int) (by rfl) h.z_int bb_int) da_nil))) (nomark _)))))
  (db_one (ds_ret de_bl))
  db_nil)
  (db_one (ds_ret (de_and (de_cmp (op_eqX cc.hu) ok_eq (de_callB call_isiX ok_isi (by rfl) h.z_isinstance bb_isinstance (da_cons (de_var 0) (da_cons (de_ty (T := .str) (by rfl) h.z_str bb_str) da_nil))) (de_callB call_isiX ok_isi (by rfl) h.z_isinstance bb_isinstance (da_cons (de_var 1) (da_cons (de_ty (T := .str) (by rfl) h.z_str bb_str) da_nil))) (nomark _)) (de_one (de_cmp (op_eqX cc.hu) ok_eq (de_var 0) (de_var 1) (nomark _)))))))))
theorem bi__law_is (kV doc pm : Value) (an : Option Addr) (cdv ct : Value) (us : List Value) (hl : us.length = 2) : bindArgs (PySem.W.fnOf "_law_is" "_law_is" (defArgs s__law_is) (defBody s__law_is) (defScope s__law_is) .none kV doc pm an cdv ct) ⟨us, []⟩ = pure ((["got", "due"] : List Str).zip us) := match us, hl with | [_, _], _ => rfl
theorem ok__law_is {P : Program} {w : World} {K : PySem.W.Frag} {mg : Str → Option Value} {base : Heap} (h : Hd τ K mg base) (m : Nat) : DefOk τ P w K mg base (0 + m) 2 "_law_is" (g__law_is m) :=
  def_rec (b := b__law_is) (g := g__law_is) (N := N__law_is) (ps := ["got", "due"]) (st := s__law_is) rfl (fun _ => rfl) h.d__law_is sc__law_is rfl bi__law_is (bd__law_is h) m
abbrev N__law_draw : List Str := ["hand", "many", "cell", "digit", "number"]
theorem sc__law_draw : FnScope N__law_draw ["hand", "many"] (defScope s__law_draw) := ⟨rfl, rfl, rfl, by decide +kernel, rfl, by decide +kernel, by decide +kernel⟩
noncomputable def b__law_draw : Sv := (sCons (sIf (tAnd (tOf (eBin oEq (eBin oIx (eVar 0) (eD (.int 2))) (eD (.int 0)))) (tOf (eBin oLt (eBin oIx (eVar 0) (eD (.int 1))) (eCall fLen (aCons (eBin oIx (eVar 0) (eD (.int 0))) aNil)))))
  (sCons (sSet 2 (eBin oIx (eBin oIx (eVar 0) (eD (.int 0))) (eBin oIx (eVar 0) (eD (.int 1)))))
  (sCons (sPut (eVar 0) (eD (.int 1)) (eBin (oAdd false) (eBin oIx (eVar 0) (eD (.int 1))) (eD (.int 1))))
  (sCons (sPut (eVar 0) (eD (.int 3)) (eBin oMod (eCall fInt (aCons (eBin (oAdd false) (eBin (oAdd false) (eBin (oMul false) (eBin oIx (eVar 0) (eD (.int 3))) (eD (.int 69621))) (eBin (oMul false) (eVar 2) (eD (.int 48271)))) (eD (.int 29))) aNil)) (eD (.int 2147483629))))
  (sIf (tOf (eBin oGe (eVar 2) (eBin oPow (eD (.int 10)) (eD (.int 18)))))
  (sPut (eVar 0) (eD (.int 2)) (eVar 2))
  sNil))))
  sNil)
  (sCons (sIf (tOf (eBin oGt (eBin oIx (eVar 0) (eD (.int 2))) (eD (.int 0))))
  (sCons (sSet 3 (eBin oMod (eCall fInt (aCons (eBin oIx (eVar 0) (eD (.int 2))) aNil)) (eVar 1)))
  (sCons (sPut (eVar 0) (eD (.int 2)) (eBin oDiv (eBin oIx (eVar 0) (eD (.int 2))) (eVar 1)))
  (sRet (eVar 3))))
  sNil)
  (sCons (sPut (eVar 0) (eD (.int 4)) (eBin (oAdd false) (eBin oIx (eVar 0) (eD (.int 4))) (eD (.int 1))))
  (sCons (sSet 4 (eBin oMod (eCall fInt (aCons (eBin (oMul false) (eCall fInt (aCons (eBin (oAdd false) (eBin oIx (eVar 0) (eD (.int 3))) (eBin (oMul false) (eD (.int 7919)) (eBin oIx (eVar 0) (eD (.int 4))))) aNil)) (eD (.int 40692))) aNil)) (eD (.int 2147483647))))
  (sCons (sSet 4 (eBin oMod (eCall fInt (aCons (eBin (oMul false) (eVar 4) (eBin (oAdd false) (eBin oDiv (eVar 4) (eD (.int 1009))) (eD (.int 69621)))) aNil)) (eD (.int 2147483647))))
  (sCons (sSet 4 (eBin oMod (eCall fInt (aCons (eBin (oMul false) (eVar 4) (eBin (oAdd false) (eBin oDiv (eVar 4) (eD (.int 2003))) (eD (.int 40014)))) aNil)) (eD (.int 2147483563))))
  (sRet (eBin oMod (eCall fInt (aCons (eBin oDiv (eVar 4) (eD (.int 16))) aNil)) (eVar 1)))))))))
noncomputable def g__law_draw : Fn := fnOf 5 b__law_draw
theorem bd__law_draw {P : Program} {w : World} {K : PySem.W.Frag} {mg : Str → Option Value} {base : Heap} (h : Hd τ K mg base) (f : Addr) (cdv : Value) (B : Around) (fs : List PySem.Env) (s : Shared) (H : Hp) (E : XK) (cc : Cc (cxD P w K mg base N__law_draw "_law_draw" s__law_draw f cdv B fs s H E) (wD E) 0) : DB τ (cxD P w K mg base N__law_draw "_law_draw" s__law_draw f cdv B fs s H E) (wD E) (defBody s__law_draw) b__law_draw :=
  (db_cons (ds_if (DW.t (dw_and (dt_cmp (op_eqX cc.hu) ok_eq (de_ix (j := 0) (de_var 0) de_int) de_int (nomark _)) (dw_one (dt_cmp (op_ltX cc.hu) ok_lt (de_ix (j := 0) (de_var 0) de_int) (de_callB call_lenX ok_len (by rfl) h.z_len bb_len (da_cons (de_ix (j := 0) (de_var 0) de_int) da_nil)) (nomark _)))))
  (db_cons (ds_set 2 cc.nd rfl (.inl rfl) (de_ix (j := 0) (de_ix (j := 0) (de_var 0) de_int) (de_ix (j := 0) (de_var 0) de_int)))
  (db_cons (ds_put (de_var 0) de_int (de_bin op_addX ok_add (de_ix (j := 0) (de_var 0) de_int) de_int))
  (db_cons (ds_put (de_var 0) de_int (de_bin op_modX ok_mod (de_callTy call_int1 ok_int (by rfl) h.z_int bb_int (da_cons (de_bin op_addX ok_add (de_bin op_addX ok_add (de_bin op_mulX' ok_mul (de_ix (j := 0) (de_var 0) de_int) de_int) (de_bin op_mulX' ok_mul (de_var 2) de_int)) de_int) da_nil)) de_int))
  (db_one (ds_if (dt_cmp (op_geX cc.hu) ok_ge (de_var 2) (de_bin op_pow ok_pow de_int de_int) (nomark _))
  (db_one (ds_put (de_var 0) de_int (de_var 2)))
  db_nil)))))
  db_nil)
  (db_cons (ds_if (dt_cmp (op_gtX cc.hu) ok_gt (de_ix (j := 0) (de_var 0) de_int) de_int (nomark _))
  (db_cons (ds_set 3 cc.nd rfl (.inl rfl) (de_bin op_modX ok_mod (de_callTy call_int1 ok_int (by rfl) h.z_int bb_int (da_cons (de_ix (j := 0) (de_var 0) de_int) da_nil)) (de_var 1)))
  (db_cons (ds_put (de_var 0) de_int (de_bin op_divX ok_div (de_ix (j := 0) (de_var 0) de_int) (de_var 1)))
  (db_one (ds_ret (de_var 3)))))
  db_nil)
  (db_cons (ds_put (de_var 0) de_int (de_bin op_addX ok_add (de_ix (j := 0) (de_var 0) de_int) de_int))
  (db_cons (ds_set 4 cc.nd rfl (.inl rfl) (de_bin op_modX ok_mod (de_callTy call_int1 ok_int (by rfl) h.z_int bb_int (da_cons (de_bin op_mulX' ok_mul (de_callTy call_int1 ok_int (by rfl) h.z_int bb_int (da_cons (de_bin op_addX ok_add (de_ix (j := 0) (de_var 0) de_int) (de_bin op_mulX' ok_mul de_int (de_ix (j := 0) (de_var 0) de_int))) da_nil)) de_int) da_nil)) de_int))
  (db_cons (ds_set 4 cc.nd rfl (.inl rfl) (de_bin op_modX ok_mod (de_callTy call_int1 ok_int (by rfl) h.z_int bb_int (da_cons (de_bin op_mulX' ok_mul (de_var 4) (de_bin op_addX ok_add (de_bin op_divX ok_div (de_var 4) de_int) de_int)) da_nil)) de_int))
  (db_cons (ds_set 4 cc.nd rfl (.inl rfl) (de_bin op_modX ok_mod (de_callTy call_int1 ok_int (by rfl) h.z_int bb_int (da_cons (de_bin op_mulX' ok_mul (de_var 4) (de_bin op_addX ok_add (de_bin op_divX ok_div (de_var 4) de_int) de_int)) da_nil)) de_int))
  (db_one (ds_ret (de_bin op_modX ok_mod (de_callTy call_int1 ok_int (by rfl) h.z_int bb_int (da_cons (de_bin op_divX ok_div (de_var 4) de_int) da_nil)) (de_var 1))))))))))
theorem bi__law_draw (kV doc pm : Value) (an : Option Addr) (cdv ct : Value) (us : List Value) (hl : us.length = 2) : bindArgs (PySem.W.fnOf "_law_draw" "_law_draw" (defArgs s__law_draw) (defBody s__law_draw) (defScope s__law_draw) .none kV doc pm an cdv ct) ⟨us, []⟩ = pure ((["hand", "many"] : List Str).zip us) := match us, hl with | [_, _], _ => rfl
theorem ok__law_draw {P : Program} {w : World} {K : PySem.W.Frag} {mg : Str → Option Value} {base : Heap} (h : Hd τ K mg base) : DefOk τ P w K mg base 1 2 "_law_draw" g__law_draw :=
  def_ok (b := b__law_draw) (N := N__law_draw) (ps := ["hand", "many"]) (st := s__law_draw) h.d__law_draw sc__law_draw rfl bi__law_draw (bd__law_draw h)
abbrev N__law_any : List Str := ["hand", "some"]
theorem sc__law_any : FnScope N__law_any ["hand", "some"] (defScope s__law_any) := ⟨rfl, rfl, rfl, by decide +kernel, rfl, by decide +kernel, by decide +kernel⟩
noncomputable def b__law_any : Sv := (sRet (eBin oIx (eVar 1) (eCallN 2 g__law_draw (aCons (eVar 0) (aCons (eCall fLen (aCons (eVar 1) aNil)) aNil)))))
noncomputable def g__law_any : Fn := fnOf 2 b__law_any
theorem bd__law_any {P : Program} {w : World} {K : PySem.W.Frag} {mg : Str → Option Value} {base : Heap} (h : Hd τ K mg base) (f : Addr) (cdv : Value) (B : Around) (fs : List PySem.Env) (s : Shared) (H : Hp) (E : XK) (cc : Cc (cxD P w K mg base N__law_any "_law_any" s__law_any f cdv B fs s H E) (wD E) 1) : DB τ (cxD P w K mg base N__law_any "_law_any" s__law_any f cdv B fs s H E) (wD E) (defBody s__law_any) b__law_any :=
  (db_one (ds_ret (de_ix (j := 0) (de_var 1) (de_callD (ok__law_draw h) cc (by decide) (by rfl) (da_cons (de_var 0) (da_cons (de_callB call_lenX ok_len (by rfl) h.z_len bb_len (da_cons (de_var 1) da_nil)) da_nil))))))
theorem bi__law_any (kV doc pm : Value) (an : Option Addr) (cdv ct : Value) (us : List Value) (hl : us.length = 2) : bindArgs (PySem.W.fnOf "_law_any" "_law_any" (defArgs s__law_any) (defBody s__law_any) (defScope s__law_any) .none kV doc pm an cdv ct) ⟨us, []⟩ = pure ((["hand", "some"] : List Str).zip us) := match us, hl with | [_, _], _ => rfl
theorem ok__law_any {P : Program} {w : World} {K : PySem.W.Frag} {mg : Str → Option Value} {base : Heap} (h : Hd τ K mg base) : DefOk τ P w K mg base 2 2 "_law_any" g__law_any :=
  def_ok (b := b__law_any) (N := N__law_any) (ps := ["hand", "some"]) (st := s__law_any) h.d__law_any sc__law_any rfl bi__law_any (bd__law_any h)
abbrev N__law_kinds : List Str := ["hand", "size", "turn"]
theorem sc__law_kinds : FnScope N__law_kinds ["hand"] (defScope s__law_kinds) := ⟨rfl, rfl, rfl, by decide +kernel, rfl, by decide +kernel, by decide +kernel⟩
noncomputable def l0__law_kinds : Ev := (eTup (aCons (eBin (oAdd false) (eD (.int 1)) (eCallN 2 g__law_draw (aCons (eVar 0) (aCons (eVar 1) aNil)))) (aCons (eCallN 2 g__law_draw (aCons (eVar 0) (aCons (eD (.int 6)) aNil))) aNil)))
noncomputable def b__law_kinds : Sv := (sCons (sSet 1 (eCallN 2 g__law_any (aCons (eVar 0) (aCons (eLst false (aCons (eD (.int 3)) (aCons (eD (.int 10)) (aCons (eD (.int 100)) aNil)))) aNil))))
  (sRet (eCall fTuple (aCons (eLc false (iRange (aCons (eBin (oAdd false) (eD (.int 1)) (eCallN 2 g__law_draw (aCons (eVar 0) (aCons (eD (.int 4)) aNil)))) aNil)) (gN 2) tYesD l0__law_kinds [2]) aNil))))
noncomputable def g__law_kinds : Fn := fnOf 3 b__law_kinds
theorem bd__law_kinds {P : Program} {w : World} {K : PySem.W.Frag} {mg : Str → Option Value} {base : Heap} (h : Hd τ K mg base) (f : Addr) (cdv : Value) (B : Around) (fs : List PySem.Env) (s : Shared) (H : Hp) (E : XK) (cc : Cc (cxD P w K mg base N__law_kinds "_law_kinds" s__law_kinds f cdv B fs s H E) (wD E) 2) : DB τ (cxD P w K mg base N__law_kinds "_law_kinds" s__law_kinds f cdv B fs s H E) (wD E) (defBody s__law_kinds) b__law_kinds :=
  (db_cons (ds_set 1 cc.nd rfl (.inr rfl) (de_callD (ok__law_any h) cc (by decide) (by rfl) (da_cons (de_var 0) (da_cons (de_lst false (da_cons de_int (da_cons de_int (da_cons de_int da_nil)))) da_nil))))
  (db_one (ds_ret (de_callTy call_tuple_of ok_tuple (by rfl) h.z_tuple bb_tuple (da_cons (de_lc false cc (di_range1 (by rfl) h.z_range (da_cons (de_bin op_addX ok_add de_int (de_callD (ok__law_draw h) cc (by decide) (by rfl) (da_cons (de_var 0) (da_cons de_int da_nil)))) da_nil)) (blkOk_by (N := N__law_kinds) (sc := defScope s__law_kinds) (own := [("turn", 2)]) (by decide +kernel)) (fun _ _ _ _ _ => (dg_name 2 cc.blk.nd rfl (.inl rfl))) (fun _ _ _ _ _ => dts_nil) (fun _ _ _ _ _ => (de_tup (da_cons (de_bin op_addX ok_add de_int (de_callD (ok__law_draw h) cc.blk (by decide) (by rfl) (da_cons (de_var 0) (da_cons (de_var 1) da_nil)))) (da_cons (de_callD (ok__law_draw h) cc.blk (by decide) (by rfl) (da_cons (de_var 0) (da_cons de_int da_nil))) da_nil))))) da_nil)))))
theorem bi__law_kinds (kV doc pm : Value) (an : Option Addr) (cdv ct : Value) (us : List Value) (hl : us.length = 1) : bindArgs (PySem.W.fnOf "_law_kinds" "_law_kinds" (defArgs s__law_kinds) (defBody s__law_kinds) (defScope s__law_kinds) .none kV doc pm an cdv ct) ⟨us, []⟩ = pure ((["hand"] : List Str).zip us) := match us, hl with | [_], _ => rfl
theorem ok__law_kinds {P : Program} {w : World} {K : PySem.W.Frag} {mg : Str → Option Value} {base : Heap} (h : Hd τ K mg base) : DefOk τ P w K mg base 3 1 "_law_kinds" g__law_kinds :=
  def_ok (b := b__law_kinds) (N := N__law_kinds) (ps := ["hand"]) (st := s__law_kinds) h.d__law_kinds sc__law_kinds rfl bi__law_kinds (bd__law_kinds h)
abbrev N__law_every : List Str := ["kinds", "found", "loud", "wanted", "longer", "row", "many"]
theorem sc__law_every : FnScope N__law_every ["kinds"] (defScope s__law_every) := ⟨rfl, rfl, rfl, by decide +kernel, rfl, by decide +kernel, by decide +kernel⟩
noncomputable def l0__law_every : Ev := (eBin (oAdd false) (eVar 5) (eTup (aCons (eVar 6) aNil)))
noncomputable def l1__law_every : Sv := (sExpr (eExt (eVar 4) (eLc false (iRange (aCons (eBin (oAdd false) (eVar 3) (eD (.int 1))) aNil)) (gN 6) tYesD l0__law_every [6])))
noncomputable def l2__law_every : Sv := (sCons (sSet 4 (eLst true aNil))
  (sCons (sFor (iSeq (eVar 1)) (gN 5) l1__law_every)
  (sSet 1 (eVar 4))))
noncomputable def b__law_every : Sv := (sCons (sSet 1 (eLst false (aCons (eTup aNil) aNil)))
  (sCons (sFor (iSeq (eVar 0)) (gT [(gN 2), (gN 3)]) l2__law_every)
  (sRet (eVar 1))))
noncomputable def g__law_every : Fn := fnOf 7 b__law_every
theorem bd__law_every {P : Program} {w : World} {K : PySem.W.Frag} {mg : Str → Option Value} {base : Heap} (h : Hd τ K mg base) (f : Addr) (cdv : Value) (B : Around) (fs : List PySem.Env) (s : Shared) (H : Hp) (E : XK) (cc : Cc (cxD P w K mg base N__law_every "_law_every" s__law_every f cdv B fs s H E) (wD E) 0) : DB τ (cxD P w K mg base N__law_every "_law_every" s__law_every f cdv B fs s H E) (wD E) (defBody s__law_every) b__law_every :=
  (db_cons (ds_set 1 cc.nd rfl (.inl rfl) (de_lst false (da_cons (de_tup da_nil) da_nil)))
  (db_cons (ds_for cc (di_seq (de_var 0)) (dg_tup cc.calm (dgs_cons (dg_name 2 cc.nd rfl (.inl rfl)) (dgs_cons (dg_name 3 cc.nd rfl (.inl rfl)) dgs_nil)))
  (db_cons (ds_set 4 cc.nd rfl (.inl rfl) (de_lst true da_nil))
  (db_cons (ds_for cc (di_seq (de_var 1)) (dg_name 5 cc.nd rfl (.inr rfl))
  (db_one (ds_expr (de_extend (de_var 4) (da_cons (de_lc false cc (di_range1 (by rfl) h.z_range (da_cons (de_bin op_addX ok_add (de_var 3) de_int) da_nil)) (blkOk_by (N := N__law_every) (sc := defScope s__law_every) (own := [("many", 6)]) (by decide +kernel)) (fun _ _ _ _ _ => (dg_name 6 cc.blk.nd rfl (.inl rfl))) (fun _ _ _ _ _ => dts_nil) (fun _ _ _ _ _ => (de_bin op_addX ok_add (de_var 5) (de_tup (da_cons (de_var 6) da_nil))))) da_nil)))))
  (db_one (ds_set 1 cc.nd rfl (.inl rfl) (de_var 4))))))
  (db_one (ds_ret (de_var 1)))))
theorem bi__law_every (kV doc pm : Value) (an : Option Addr) (cdv ct : Value) (us : List Value) (hl : us.length = 1) : bindArgs (PySem.W.fnOf "_law_every" "_law_every" (defArgs s__law_every) (defBody s__law_every) (defScope s__law_every) .none kV doc pm an cdv ct) ⟨us, []⟩ = pure ((["kinds"] : List Str).zip us) := match us, hl with | [_], _ => rfl
theorem ok__law_every {P : Program} {w : World} {K : PySem.W.Frag} {mg : Str → Option Value} {base : Heap} (h : Hd τ K mg base) : DefOk τ P w K mg base 1 1 "_law_every" g__law_every :=
  def_ok (b := b__law_every) (N := N__law_every) (ps := ["kinds"]) (st := s__law_every) h.d__law_every sc__law_every rfl bi__law_every (bd__law_every h)
abbrev N__law_noise : List Str := ["kinds", "flights", "many", "loud", "wanted"]
theorem sc__law_noise : FnScope N__law_noise ["kinds", "flights"] (defScope s__law_noise) := ⟨rfl, rfl, rfl, by decide +kernel, rfl, by decide +kernel, by decide +kernel⟩
noncomputable def l0__law_noise : Ev := (eBin (oMul false) (eVar 3) (eVar 2))
noncomputable def b__law_noise : Sv := (sRet (eCall fSumX (aCons (eLc false (iZipX (aCons (eVar 0) (aCons (eVar 1) aNil))) (gT [(gT [(gN 3), (gN 4)]), (gN 2)]) tYesD l0__law_noise [2, 3, 4]) aNil)))
noncomputable def g__law_noise : Fn := fnOf 5 b__law_noise
theorem bd__law_noise {P : Program} {w : World} {K : PySem.W.Frag} {mg : Str → Option Value} {base : Heap} (h : Hd τ K mg base) (f : Addr) (cdv : Value) (B : Around) (fs : List PySem.Env) (s : Shared) (H : Hp) (E : XK) (cc : Cc (cxD P w K mg base N__law_noise "_law_noise" s__law_noise f cdv B fs s H E) (wD E) 0) : DB τ (cxD P w K mg base N__law_noise "_law_noise" s__law_noise f cdv B fs s H E) (wD E) (defBody s__law_noise) b__law_noise :=
  (db_one (ds_ret (de_callB (call_sumX cc.calm) ok_sumX (by rfl) h.z_sum bb_sum (da_cons (de_lc false cc (di_zipX (by rfl) h.z_zip (da_cons (de_var 0) (da_cons (de_var 1) da_nil))) (blkOk_by (N := N__law_noise) (sc := defScope s__law_noise) (own := [("many", 2), ("loud", 3), ("wanted", 4)]) (by decide +kernel)) (fun _ _ _ _ _ => (dg_tup cc.blk.calm (dgs_cons (dg_tup cc.blk.calm (dgs_cons (dg_name 3 cc.blk.nd rfl (.inl rfl)) (dgs_cons (dg_name 4 cc.blk.nd rfl (.inl rfl)) dgs_nil))) (dgs_cons (dg_name 2 cc.blk.nd rfl (.inl rfl)) dgs_nil)))) (fun _ _ _ _ _ => dts_nil) (fun _ _ _ _ _ => (de_bin op_mulX' ok_mul (de_var 3) (de_var 2)))) da_nil))))
theorem bi__law_noise (kV doc pm : Value) (an : Option Addr) (cdv ct : Value) (us : List Value) (hl : us.length = 2) : bindArgs (PySem.W.fnOf "_law_noise" "_law_noise" (defArgs s__law_noise) (defBody s__law_noise) (defScope s__law_noise) .none kV doc pm an cdv ct) ⟨us, []⟩ = pure ((["kinds", "flights"] : List Str).zip us) := match us, hl with | [_, _], _ => rfl
theorem ok__law_noise {P : Program} {w : World} {K : PySem.W.Frag} {mg : Str → Option Value} {base : Heap} (h : Hd τ K mg base) : DefOk τ P w K mg base 1 2 "_law_noise" g__law_noise :=
  def_ok (b := b__law_noise) (N := N__law_noise) (ps := ["kinds", "flights"]) (st := s__law_noise) h.d__law_noise sc__law_noise rfl bi__law_noise (bd__law_noise h)
abbrev N_are_within : List Str := ["thing", "least", "most", "one"]
theorem sc_are_within : FnScope N_are_within ["thing", "least", "most"] (defScope s_are_within) := ⟨rfl, rfl, rfl, by decide +kernel, rfl, by decide +kernel, by decide +kernel⟩
noncomputable def l0_are_within : Ev := (eCallN 3 g_is_within (aCons (eVar 3) (aCons (eVar 1) (aCons (eVar 2) aNil))))
noncomputable def b_are_within : Sv := (sRet (eAnd (eCall fIsi (aCons (eVar 0) (aCons (eTy .tup) aNil))) (eCall fAll (aCons (eLc false (iSeq (eVar 0)) (gN 3) tYesD l0_are_within [3]) aNil))))
noncomputable def g_are_within : Fn := fnOf 4 b_are_within
theorem bd_are_within {P : Program} {w : World} {K : PySem.W.Frag} {mg : Str → Option Value} {base : Heap} (h : Hd τ K mg base) (f : Addr) (cdv : Value) (B : Around) (fs : List PySem.Env) (s : Shared) (H : Hp) (E : XK) (cc : Cc (cxD P w K mg base N_are_within "are_within" s_are_within f cdv B fs s H E) (wD E) 2) : DB τ (cxD P w K mg base N_are_within "are_within" s_are_within f cdv B fs s H E) (wD E) (defBody s_are_within) b_are_within :=
  (db_one (ds_ret (de_and (de_callB call_isiX ok_isi (by rfl) h.z_isinstance bb_isinstance (da_cons (de_var 0) (da_cons (de_ty (T := .tup) (by rfl) h.z_tuple bb_tuple) da_nil))) (de_one (de_callB (call_allX cc.calm) ok_allF (by rfl) h.z_all bb_all (da_cons (de_lc false cc (di_seq (de_var 0)) (blkOk_by (N := N_are_within) (sc := defScope s_are_within) (own := [("one", 3)]) (by decide +kernel)) (fun _ _ _ _ _ => (dg_name 3 cc.blk.nd rfl (.inl rfl))) (fun _ _ _ _ _ => dts_nil) (fun _ _ _ _ _ => (de_callD (ok_is_within h) cc.blk (by decide) (by rfl) (da_cons (de_var 3) (da_cons (de_var 1) (da_cons (de_var 2) da_nil)))))) da_nil))))))
theorem bi_are_within (kV doc pm : Value) (an : Option Addr) (cdv ct : Value) (us : List Value) (hl : us.length = 3) : bindArgs (PySem.W.fnOf "are_within" "are_within" (defArgs s_are_within) (defBody s_are_within) (defScope s_are_within) .none kV doc pm an cdv ct) ⟨us, []⟩ = pure ((["thing", "least", "most"] : List Str).zip us) := match us, hl with | [_, _, _], _ => rfl
theorem ok_are_within {P : Program} {w : World} {K : PySem.W.Frag} {mg : Str → Option Value} {base : Heap} (h : Hd τ K mg base) : DefOk τ P w K mg base 3 3 "are_within" g_are_within :=
  def_ok (b := b_are_within) (N := N_are_within) (ps := ["thing", "least", "most"]) (st := s_are_within) h.d_are_within sc_are_within rfl bi_are_within (bd_are_within h)
abbrev N_raw_noise : List Str := ["kinds", "flights", "many", "loud", "wanted"]
theorem sc_raw_noise : FnScope N_raw_noise ["kinds", "flights"] (defScope s_raw_noise) := ⟨rfl, rfl, rfl, by decide +kernel, rfl, by decide +kernel, by decide +kernel⟩
noncomputable def l0_raw_noise : Ev := (eBin (oMul false) (eVar 3) (eVar 2))
noncomputable def b_raw_noise : Sv := (sRet (eCall fSumX (aCons (eLc false (iZipX (aCons (eVar 0) (aCons (eVar 1) aNil))) (gT [(gT [(gN 3), (gN 4)]), (gN 2)]) tYesD l0_raw_noise [2, 3, 4]) aNil)))
noncomputable def g_raw_noise : Fn := fnOf 5 b_raw_noise
theorem bd_raw_noise {P : Program} {w : World} {K : PySem.W.Frag} {mg : Str → Option Value} {base : Heap} (h : Hd τ K mg base) (f : Addr) (cdv : Value) (B : Around) (fs : List PySem.Env) (s : Shared) (H : Hp) (E : XK) (cc : Cc (cxD P w K mg base N_raw_noise "raw_noise" s_raw_noise f cdv B fs s H E) (wD E) 0) : DB τ (cxD P w K mg base N_raw_noise "raw_noise" s_raw_noise f cdv B fs s H E) (wD E) (defBody s_raw_noise) b_raw_noise :=
  (db_one (ds_ret (de_callB (call_sumX cc.calm) ok_sumX (by rfl) h.z_sum bb_sum (da_cons (de_lc false cc (di_zipX (by rfl) h.z_zip (da_cons (de_var 0) (da_cons (de_var 1) da_nil))) (blkOk_by (N := N_raw_noise) (sc := defScope s_raw_noise) (own := [("many", 2), ("loud", 3), ("wanted", 4)]) (by decide +kernel)) (fun _ _ _ _ _ => (dg_tup cc.blk.calm (dgs_cons (dg_tup cc.blk.calm (dgs_cons (dg_name 3 cc.blk.nd rfl (.inl rfl)) (dgs_cons (dg_name 4 cc.blk.nd rfl (.inl rfl)) dgs_nil))) (dgs_cons (dg_name 2 cc.blk.nd rfl (.inl rfl)) dgs_nil)))) (fun _ _ _ _ _ => dts_nil) (fun _ _ _ _ _ => (de_bin op_mulX' ok_mul (de_var 3) (de_var 2)))) da_nil))))
theorem bi_raw_noise (kV doc pm : Value) (an : Option Addr) (cdv ct : Value) (us : List Value) (hl : us.length = 2) : bindArgs (PySem.W.fnOf "raw_noise" "raw_noise" (defArgs s_raw_noise) (defBody s_raw_noise) (defScope s_raw_noise) .none kV doc pm an cdv ct) ⟨us, []⟩ = pure ((["kinds", "flights"] : List Str).zip us) := match us, hl with | [_, _], _ => rfl
theorem ok_raw_noise {P : Program} {w : World} {K : PySem.W.Frag} {mg : Str → Option Value} {base : Heap} (h : Hd τ K mg base) : DefOk τ P w K mg base 1 2 "raw_noise" g_raw_noise :=
  def_ok (b := b_raw_noise) (N := N_raw_noise) (ps := ["kinds", "flights"]) (st := s_raw_noise) h.d_raw_noise sc_raw_noise rfl bi_raw_noise (bd_raw_noise h)
abbrev N_is_flights : List Str := ["kinds", "noise", "thing", "many", "loud", "wanted"]
theorem sc_is_flights : FnScope N_is_flights ["kinds", "noise", "thing"] (defScope s_is_flights) := ⟨rfl, rfl, rfl, by decide +kernel, rfl, by decide +kernel, by decide +kernel⟩
noncomputable def l0_is_flights : Ev := (eBin oGt (eVar 3) (eVar 5))
noncomputable def b_is_flights : Sv := (sCons (sExpr (eCallN 2 g_check_both (aCons (eVar 0) (aCons (eVar 1) aNil))))
  (sCons (sIf (tOr (tNot (tOf (eCallN 2 g_is_tuple_of (aCons (eVar 2) (aCons (eCall fLen (aCons (eVar 0) aNil)) aNil))))) (tNot (tOf (eCallN 3 g_are_within (aCons (eVar 2) (aCons (eD (.int 0)) (aCons (eD (.int 40)) aNil)))))))
  (sRet (eD (.bool false)))
  sNil)
  (sCons (sIf (tOf (eCall fAny (aCons (eLc false (iZipX (aCons (eVar 2) (aCons (eVar 0) aNil))) (gT [(gN 3), (gT [(gN 4), (gN 5)])]) tYesD l0_is_flights [3, 4, 5]) aNil)))
  (sRet (eD (.bool false)))
  sNil)
  (sRet (eBin oLe (eCallN 2 g_raw_noise (aCons (eVar 0) (aCons (eVar 2) aNil))) (eVar 1))))))
noncomputable def g_is_flights : Fn := fnOf 6 b_is_flights
theorem bd_is_flights {P : Program} {w : World} {K : PySem.W.Frag} {mg : Str → Option Value} {base : Heap} (h : Hd τ K mg base) (f : Addr) (cdv : Value) (B : Around) (fs : List PySem.Env) (s : Shared) (H : Hp) (E : XK) (cc : Cc (cxD P w K mg base N_is_flights "is_flights" s_is_flights f cdv B fs s H E) (wD E) 5) : DB τ (cxD P w K mg base N_is_flights "is_flights" s_is_flights f cdv B fs s H E) (wD E) (defBody s_is_flights) b_is_flights :=
  (db_cons (ds_expr (de_callD (ok_check_both h) cc (by decide) (by rfl) (da_cons (de_var 0) (da_cons (de_var 1) da_nil))))
  (db_cons (ds_if (DW.t (dw_or (dt_not (dt_val (de_callD (ok_is_tuple_of h) cc (by decide) (by rfl) (da_cons (de_var 2) (da_cons (de_callB call_lenX ok_len (by rfl) h.z_len bb_len (da_cons (de_var 0) da_nil)) da_nil))))) (dw_or1 (dt_not (dt_val (de_callD (ok_are_within h) cc (by decide) (by rfl) (da_cons (de_var 2) (da_cons de_int (da_cons (de_conI h.c_MOST_WANTED (by rfl)) da_nil)))))))))
  (db_one (ds_ret de_bl))
  db_nil)
  (db_cons (ds_if (dt_val (de_callB (call_anyX cc.calm) ok_anyF (by rfl) h.z_any bb_any (da_cons (de_lc false cc (di_zipX (by rfl) h.z_zip (da_cons (de_var 2) (da_cons (de_var 0) da_nil))) (blkOk_by (N := N_is_flights) (sc := defScope s_is_flights) (own := [("many", 3), ("loud", 4), ("wanted", 5)]) (by decide +kernel)) (fun _ _ _ _ _ => (dg_tup cc.blk.calm (dgs_cons (dg_name 3 cc.blk.nd rfl (.inl rfl)) (dgs_cons (dg_tup cc.blk.calm (dgs_cons (dg_name 4 cc.blk.nd rfl (.inl rfl)) (dgs_cons (dg_name 5 cc.blk.nd rfl (.inl rfl)) dgs_nil))) dgs_nil)))) (fun _ _ _ _ _ => dts_nil) (fun _ _ _ _ _ => (de_cmp (op_gtX cc.blk.hu) ok_gt (de_var 3) (de_var 5) (nomark _)))) da_nil)))
  (db_one (ds_ret de_bl))
  db_nil)
  (db_one (ds_ret (de_cmp (op_leX cc.hu) ok_le (de_callD (ok_raw_noise h) cc (by decide) (by rfl) (da_cons (de_var 0) (da_cons (de_var 2) da_nil))) (de_var 1) (nomark _)))))))
theorem bi_is_flights (kV doc pm : Value) (an : Option Addr) (cdv ct : Value) (us : List Value) (hl : us.length = 3) : bindArgs (PySem.W.fnOf "is_flights" "is_flights" (defArgs s_is_flights) (defBody s_is_flights) (defScope s_is_flights) .none kV doc pm an cdv ct) ⟨us, []⟩ = pure ((["kinds", "noise", "thing"] : List Str).zip us) := match us, hl with | [_, _, _], _ => rfl
theorem ok_is_flights {P : Program} {w : World} {K : PySem.W.Frag} {mg : Str → Option Value} {base : Heap} (h : Hd τ K mg base) : DefOk τ P w K mg base 6 3 "is_flights" g_is_flights :=
  def_ok (b := b_is_flights) (N := N_is_flights) (ps := ["kinds", "noise", "thing"]) (st := s_is_flights) h.d_is_flights sc_is_flights rfl bi_is_flights (bd_is_flights h)
abbrev N__law_is_int : List Str := ["thing", "low", "high"]
theorem sc__law_is_int : FnScope N__law_is_int ["thing", "low", "high"] (defScope s__law_is_int) := ⟨rfl, rfl, rfl, by decide +kernel, rfl, by decide +kernel, by decide +kernel⟩
noncomputable def b__law_is_int : Sv := (sRet (eAnd (eCall fIsi (aCons (eVar 0) (aCons (eTy .int) aNil))) (eAnd (eNot (eCall fIsi (aCons (eVar 0) (aCons (eTy .bool) aNil)))) (eChain oLe oLe (eVar 1) (eVar 0) (eVar 2)))))
noncomputable def g__law_is_int : Fn := fnOf 3 b__law_is_int
theorem bd__law_is_int {P : Program} {w : World} {K : PySem.W.Frag} {mg : Str → Option Value} {base : Heap} (h : Hd τ K mg base) (f : Addr) (cdv : Value) (B : Around) (fs : List PySem.Env) (s : Shared) (H : Hp) (E : XK) (cc : Cc (cxD P w K mg base N__law_is_int "_law_is_int" s__law_is_int f cdv B fs s H E) (wD E) 0) : DB τ (cxD P w K mg base N__law_is_int "_law_is_int" s__law_is_int f cdv B fs s H E) (wD E) (defBody s__law_is_int) b__law_is_int :=
  (db_one (ds_ret (de_and (de_callB call_isiX ok_isi (by rfl) h.z_isinstance bb_isinstance (da_cons (de_var 0) (da_cons (de_ty (T := .int) (by rfl) h.z_int bb_int) da_nil))) (de_and (de_not (de_callB call_isiX ok_isi (by rfl) h.z_isinstance bb_isinstance (da_cons (de_var 0) (da_cons (de_ty (T := .bool) (by rfl) h.z_bool bb_bool) da_nil)))) (de_one (de_chain (op_leX cc.hu) ok_le (op_leX cc.hu) ok_le (de_var 1) (de_var 0) (de_var 2)))))))
theorem bi__law_is_int (kV doc pm : Value) (an : Option Addr) (cdv ct : Value) (us : List Value) (hl : us.length = 3) : bindArgs (PySem.W.fnOf "_law_is_int" "_law_is_int" (defArgs s__law_is_int) (defBody s__law_is_int) (defScope s__law_is_int) .none kV doc pm an cdv ct) ⟨us, []⟩ = pure ((["thing", "low", "high"] : List Str).zip us) := match us, hl with | [_, _, _], _ => rfl
theorem ok__law_is_int {P : Program} {w : World} {K : PySem.W.Frag} {mg : Str → Option Value} {base : Heap} (h : Hd τ K mg base) : DefOk τ P w K mg base 1 3 "_law_is_int" g__law_is_int :=
  def_ok (b := b__law_is_int) (N := N__law_is_int) (ps := ["thing", "low", "high"]) (st := s__law_is_int) h.d__law_is_int sc__law_is_int rfl bi__law_is_int (bd__law_is_int h)
abbrev N__law_is_flights : List Str := ["kinds", "noise", "thing", "many", "loud", "wanted"]
theorem sc__law_is_flights : FnScope N__law_is_flights ["kinds", "noise", "thing"] (defScope s__law_is_flights) := ⟨rfl, rfl, rfl, by decide +kernel, rfl, by decide +kernel, by decide +kernel⟩
noncomputable def l0__law_is_flights : Ev := (eCallN 3 g__law_is_int (aCons (eVar 3) (aCons (eD (.int 0)) (aCons (eVar 5) aNil))))
noncomputable def b__law_is_flights : Sv := (sCons (sIf (tOr (tNot (tOf (eCall fIsi (aCons (eVar 2) (aCons (eTy .tup) aNil))))) (tOf (eBin oNe (eCall fLen (aCons (eVar 2) aNil)) (eCall fLen (aCons (eVar 0) aNil)))))
  (sRet (eD (.bool false)))
  sNil)
  (sCons (sIf (tNot (tOf (eCall fAll (aCons (eLc false (iZipX (aCons (eVar 2) (aCons (eVar 0) aNil))) (gT [(gN 3), (gT [(gN 4), (gN 5)])]) tYesD l0__law_is_flights [3, 4, 5]) aNil))))
  (sRet (eD (.bool false)))
  sNil)
  (sRet (eBin oLe (eCallN 2 g__law_noise (aCons (eVar 0) (aCons (eVar 2) aNil))) (eVar 1)))))
noncomputable def g__law_is_flights : Fn := fnOf 6 b__law_is_flights
theorem bd__law_is_flights {P : Program} {w : World} {K : PySem.W.Frag} {mg : Str → Option Value} {base : Heap} (h : Hd τ K mg base) (f : Addr) (cdv : Value) (B : Around) (fs : List PySem.Env) (s : Shared) (H : Hp) (E : XK) (cc : Cc (cxD P w K mg base N__law_is_flights "_law_is_flights" s__law_is_flights f cdv B fs s H E) (wD E) 1) : DB τ (cxD P w K mg base N__law_is_flights "_law_is_flights" s__law_is_flights f cdv B fs s H E) (wD E) (defBody s__law_is_flights) b__law_is_flights :=
  (db_cons (ds_if (DW.t (dw_or (dt_not (dt_val (de_callB call_isiX ok_isi (by rfl) h.z_isinstance bb_isinstance (da_cons (de_var 2) (da_cons (de_ty (T := .tup) (by rfl) h.z_tuple bb_tuple) da_nil))))) (dw_or1 (dt_cmp (op_neX cc.hu) ok_ne (de_callB call_lenX ok_len (by rfl) h.z_len bb_len (da_cons (de_var 2) da_nil)) (de_callB call_lenX ok_len (by rfl) h.z_len bb_len (da_cons (de_var 0) da_nil)) (nomark _)))))
  (db_one (ds_ret de_bl))
  db_nil)
  (db_cons (ds_if (dt_not (dt_val (de_callB (call_allX cc.calm) ok_allF (by rfl) h.z_all bb_all (da_cons (de_lc false cc (di_zipX (by rfl) h.z_zip (da_cons (de_var 2) (da_cons (de_var 0) da_nil))) (blkOk_by (N := N__law_is_flights) (sc := defScope s__law_is_flights) (own := [("many", 3), ("loud", 4), ("wanted", 5)]) (by decide +kernel)) (fun _ _ _ _ _ => (dg_tup cc.blk.calm (dgs_cons (dg_name 3 cc.blk.nd rfl (.inl rfl)) (dgs_cons (dg_tup cc.blk.calm (dgs_cons (dg_name 4 cc.blk.nd rfl (.inl rfl)) (dgs_cons (dg_name 5 cc.blk.nd rfl (.inl rfl)) dgs_nil))) dgs_nil)))) (fun _ _ _ _ _ => dts_nil) (fun _ _ _ _ _ => (de_callD (ok__law_is_int h) cc.blk (by decide) (by rfl) (da_cons (de_var 3) (da_cons de_int (da_cons (de_var 5) da_nil)))))) da_nil))))
  (db_one (ds_ret de_bl))
  db_nil)
  (db_one (ds_ret (de_cmp (op_leX cc.hu) ok_le (de_callD (ok__law_noise h) cc (by decide) (by rfl) (da_cons (de_var 0) (da_cons (de_var 2) da_nil))) (de_var 1) (nomark _))))))
theorem bi__law_is_flights (kV doc pm : Value) (an : Option Addr) (cdv ct : Value) (us : List Value) (hl : us.length = 3) : bindArgs (PySem.W.fnOf "_law_is_flights" "_law_is_flights" (defArgs s__law_is_flights) (defBody s__law_is_flights) (defScope s__law_is_flights) .none kV doc pm an cdv ct) ⟨us, []⟩ = pure ((["kinds", "noise", "thing"] : List Str).zip us) := match us, hl with | [_, _, _], _ => rfl
theorem ok__law_is_flights {P : Program} {w : World} {K : PySem.W.Frag} {mg : Str → Option Value} {base : Heap} (h : Hd τ K mg base) : DefOk τ P w K mg base 2 3 "_law_is_flights" g__law_is_flights :=
  def_ok (b := b__law_is_flights) (N := N__law_is_flights) (ps := ["kinds", "noise", "thing"]) (st := s__law_is_flights) h.d__law_is_flights sc__law_is_flights rfl bi__law_is_flights (bd__law_is_flights h)
abbrev N__law_is_right : List Str := ["hand", "kinds", "every", "whole", "noise", "good", "most", "least", "quiet", "due", "turn", "row", "at", "odd", "new", "thing"]
theorem sc__law_is_right : FnScope N__law_is_right ["hand", "kinds"] (defScope s__law_is_right) := ⟨rfl, rfl, rfl, by decide +kernel, rfl, by decide +kernel, by decide +kernel⟩
noncomputable def t0__law_is_right : Sv := (sSet 2 (eCallN 1 g__law_every (aCons (eVar 1) aNil)))
noncomputable def t1__law_is_right : Sv := (sSet 3 (eCallN 2 g__law_noise (aCons (eVar 1) (aCons (eBin oIx (eVar 2) (eUn oNeg (eD (.int 1)))) aNil))))
noncomputable def t2__law_is_right : Sv := (sSet 4 (eCallN 2 g__law_any (aCons (eVar 0) (aCons (eLst false (aCons (eD (.int 0)) (aCons (eD (.int 4000)) (aCons (eCall fMin2 (aCons (eD (.int 4000)) (aCons (eVar 3) aNil))) (aCons (eCallN 2 g__law_draw (aCons (eVar 0) (aCons (eBin (oAdd false) (eCall fMin2 (aCons (eD (.int 4000)) (aCons (eVar 3) aNil))) (eD (.int 1))) aNil))) (aCons (eCallN 2 g__law_draw (aCons (eVar 0) (aCons (eD (.int 60)) aNil))) aNil)))))) aNil))))
noncomputable def l0__law_is_right : Ev := (eVar 11)
noncomputable def l1__law_is_right : Tv := (tOf (eBin oLe (eCallN 2 g__law_noise (aCons (eVar 1) (aCons (eVar 11) aNil))) (eVar 4)))
noncomputable def t3__law_is_right : Sv := (sSet 5 (eLc false (iSeq (eVar 2)) (gN 11) l1__law_is_right l0__law_is_right [11]))
noncomputable def l2__law_is_right : Ev := (eCall fSumX (aCons (eVar 11) aNil))
noncomputable def t4__law_is_right : Sv := (sSet 6 (eCall fMax1 (aCons (eLc false (iSeq (eVar 5)) (gN 11) tYesD l2__law_is_right [11]) aNil)))
noncomputable def l3__law_is_right : Ev := (eCallN 2 g__law_noise (aCons (eVar 1) (aCons (eVar 11) aNil)))
noncomputable def l4__law_is_right : Tv := (tOf (eBin oEq (eCall fSumX (aCons (eVar 11) aNil)) (eVar 6)))
noncomputable def t5__law_is_right : Sv := (sSet 7 (eCall fMin1 (aCons (eLc false (iSeq (eVar 5)) (gN 11) l4__law_is_right l3__law_is_right [11]) aNil)))
noncomputable def l5__law_is_right : Ev := (eVar 11)
noncomputable def l6__law_is_right : Tv := (tAnd (tOf (eBin oEq (eCall fSumX (aCons (eVar 11) aNil)) (eVar 6))) (tOf (eBin oEq (eCallN 2 g__law_noise (aCons (eVar 1) (aCons (eVar 11) aNil))) (eVar 7))))
noncomputable def t6__law_is_right : Sv := (sSet 8 (eCall fMax1 (aCons (eLc false (iSeq (eVar 5)) (gN 11) l6__law_is_right l5__law_is_right [11]) aNil)))
noncomputable def l7__law_is_right : Ev := (eCallN 2 g__law_noise (aCons (eVar 1) (aCons (eVar 11) aNil)))
noncomputable def t7__law_is_right : Sv := (sSet 9 (eLst false (aCons (eVar 6) (aCons (eVar 8) (aCons (eCall fMax1 (aCons (eLc false (iSeq (eVar 5)) (gN 11) tYesD l7__law_is_right [11]) aNil)) (aCons (eCall fLen (aCons (eVar 5) aNil)) aNil))))))
noncomputable def t8__law_is_right : Sv := (sIf (tNot (tOf (eCallN 2 (g__law_is 30) (aCons (eLst false (aCons (eCallN 2 g_most_flights (aCons (eVar 1) (aCons (eVar 4) aNil))) (aCons (eCallN 2 g_quiet_flights (aCons (eVar 1) (aCons (eVar 4) aNil))) (aCons (eCallN 2 g_loudest (aCons (eVar 1) (aCons (eVar 4) aNil))) (aCons (eCallN 2 g_ways_many (aCons (eVar 1) (aCons (eVar 4) aNil))) aNil))))) (aCons (eVar 9) aNil)))))
  (sRet (eD (.bool false)))
  sNil)
noncomputable def l8__law_is_right : Sv := (sCons (sSet 11 (eCallN 2 g__law_any (aCons (eVar 0) (aCons (eLst false (aCons (eVar 8) (aCons (eCallN 2 g__law_any (aCons (eVar 0) (aCons (eVar 2) aNil))) (aCons (eCallN 2 g__law_any (aCons (eVar 0) (aCons (eVar 5) aNil))) aNil)))) aNil))))
  (sCons (sPar [(gN 12), (gN 13)] (aCons (eCallN 2 g__law_draw (aCons (eVar 0) (aCons (eCall fLen (aCons (eVar 11) aNil)) aNil))) (aCons (eCallN 2 g__law_any (aCons (eVar 0) (aCons (eLst false (aCons (eD (.int 1)) (aCons (eUn oNeg (eD (.int 1))) (aCons (eD (.int 41)) (aCons (eD .none) (aCons (eD (.bool true)) (aCons (eD (.str "1")) (aCons (eTup (aCons (eD (.int 0)) aNil)) aNil)))))))) aNil))) aNil)))
  (sCons (sSet 14 (eIf (tAnd (tOf (eBin (oIn false) (eVar 13) (eTup (aCons (eD (.int 1)) (aCons (eUn oNeg (eD (.int 1))) aNil))))) (tNot (tOf (eCall fIsi (aCons (eVar 13) (aCons (eTy .bool) aNil)))))) (eBin (oAdd false) (eBin oIx (eVar 11) (eVar 12)) (eVar 13)) (eVar 13)))
  (sCons (sSet 15 (eCallN 2 g__law_any (aCons (eVar 0) (aCons (eLst false (aCons (eVar 11) (aCons (eBin (oAdd false) (eBin (oAdd false) (eSl false (eVar 11) pNo (pAt (eVar 12))) (eTup (aCons (eVar 14) aNil))) (eSl false (eVar 11) (pAt (eBin (oAdd false) (eVar 12) (eD (.int 1)))) pNo)) (aCons (eCall (fList false) (aCons (eVar 11) aNil)) (aCons (eSl false (eVar 11) (pAt (eD (.int 1))) pNo) (aCons (eBin (oAdd false) (eVar 11) (eTup (aCons (eD (.int 0)) aNil))) (aCons (eD .none) (aCons (eD (.int 5)) (aCons (eDic0 false) aNil))))))))) aNil))))
  (sIf (tNot (tOf (eCallN 2 (g__law_is 30) (aCons (eCallN 3 g_is_flights (aCons (eVar 1) (aCons (eVar 4) (aCons (eVar 15) aNil)))) (aCons (eCallN 3 g__law_is_flights (aCons (eVar 1) (aCons (eVar 4) (aCons (eVar 15) aNil)))) aNil)))))
  (sRet (eD (.bool false)))
  sNil)))))
noncomputable def t9__law_is_right : Sv := (sFor (iRange (aCons (eD (.int 7)) aNil)) (gN 10) l8__law_is_right)
noncomputable def t10__law_is_right : Sv := (sRet (eBin oGe (eCallN 2 g_most_flights (aCons (eVar 1) (aCons (eCall fMin2 (aCons (eD (.int 4000)) (aCons (eBin (oAdd false) (eBin (oAdd false) (eVar 4) (eD (.int 1))) (eCallN 2 g__law_draw (aCons (eVar 0) (aCons (eD (.int 50)) aNil)))) aNil))) aNil))) (eVar 6)))
noncomputable def b__law_is_right : Sv := (sCons t0__law_is_right
  (sCons t1__law_is_right
  (sCons t2__law_is_right
  (sCons t3__law_is_right
  (sCons t4__law_is_right
  (sCons t5__law_is_right
  (sCons t6__law_is_right
  (sCons t7__law_is_right
  (sCons t8__law_is_right
  (sCons t9__law_is_right
  t10__law_is_right))))))))))
noncomputable def g__law_is_right : Fn := fnOf 16 b__law_is_right
theorem bd__law_is_right {P : Program} {w : World} {K : PySem.W.Frag} {mg : Str → Option Value} {base : Heap} (h : Hd τ K mg base) (f : Addr) (cdv : Value) (B : Around) (fs : List PySem.Env) (s : Shared) (H : Hp) (E : XK) (cc : Cc (cxD P w K mg base N__law_is_right "_law_is_right" s__law_is_right f cdv B fs s H E) (wD E) 30) : DB τ (cxD P w K mg base N__law_is_right "_law_is_right" s__law_is_right f cdv B fs s H E) (wD E) (defBody s__law_is_right) b__law_is_right :=
  (db_cons (ds_set 2 cc.nd rfl (.inl rfl) (de_callD (ok__law_every h) cc (by decide) (by rfl) (da_cons (de_var 1) da_nil)))
  (db_cons (ds_set 3 cc.nd rfl (.inl rfl) (de_callD (ok__law_noise h) cc (by decide) (by rfl) (da_cons (de_var 1) (da_cons (de_ix (j := 0) (de_var 2) (de_un un_neg ok_neg de_int)) da_nil))))
  (db_cons (ds_set 4 cc.nd rfl (.inr rfl) (de_callD (ok__law_any h) cc (by decide) (by rfl) (da_cons (de_var 0) (da_cons (de_lst false (da_cons de_int (da_cons de_int (da_cons (de_callB (call_min2 cc.calm) ok_min2 (by rfl) h.z_min bb_min (da_cons de_int (da_cons (de_var 3) da_nil))) (da_cons (de_callD (ok__law_draw h) cc (by decide) (by rfl) (da_cons (de_var 0) (da_cons (de_bin op_addX ok_add (de_callB (call_min2 cc.calm) ok_min2 (by rfl) h.z_min bb_min (da_cons de_int (da_cons (de_var 3) da_nil))) de_int) da_nil))) (da_cons (de_callD (ok__law_draw h) cc (by decide) (by rfl) (da_cons (de_var 0) (da_cons de_int da_nil))) da_nil)))))) da_nil))))
  (db_cons (ds_lc 5 false cc rfl rfl (by rfl) (di_seq (de_var 2)) (blkOk_by (N := N__law_is_right) (sc := defScope s__law_is_right) (own := [("row", 11)]) (by decide +kernel)) (fun _ _ _ _ _ => (dg_name 11 cc.blk.nd rfl (.inl rfl))) (fun _ _ _ _ _ => (dts_one (dt_cmp (op_leX cc.blk.hu) ok_le (de_callD (ok__law_noise h) cc.blk (by decide) (by rfl) (da_cons (de_var 1) (da_cons (de_var 11) da_nil))) (de_var 4) (nomark _)))) (fun _ _ _ _ _ => (de_var 11)))
  (db_cons (ds_set 6 cc.nd rfl (.inr rfl) (de_callB (call_max1X cc.calm cc.hu) ok_max1 (by rfl) h.z_max bb_max (da_cons (de_lc false cc (di_seq (de_var 5)) (blkOk_by (N := N__law_is_right) (sc := defScope s__law_is_right) (own := [("row", 11)]) (by decide +kernel)) (fun _ _ _ _ _ => (dg_name 11 cc.blk.nd rfl (.inl rfl))) (fun _ _ _ _ _ => dts_nil) (fun _ _ _ _ _ => (de_callB (call_sumX cc.blk.calm) ok_sumX (by rfl) h.z_sum bb_sum (da_cons (de_var 11) da_nil)))) da_nil)))
  (db_cons (ds_set 7 cc.nd rfl (.inr rfl) (de_callB (call_min1X cc.calm cc.hu) ok_min1 (by rfl) h.z_min bb_min (da_cons (de_lc false cc (di_seq (de_var 5)) (blkOk_by (N := N__law_is_right) (sc := defScope s__law_is_right) (own := [("row", 11)]) (by decide +kernel)) (fun _ _ _ _ _ => (dg_name 11 cc.blk.nd rfl (.inl rfl))) (fun _ _ _ _ _ => (dts_one (dt_cmp (op_eqX cc.blk.hu) ok_eq (de_callB (call_sumX cc.blk.calm) ok_sumX (by rfl) h.z_sum bb_sum (da_cons (de_var 11) da_nil)) (de_var 6) (nomark _)))) (fun _ _ _ _ _ => (de_callD (ok__law_noise h) cc.blk (by decide) (by rfl) (da_cons (de_var 1) (da_cons (de_var 11) da_nil))))) da_nil)))
  (db_cons (ds_set 8 cc.nd rfl (.inl rfl) (de_callB (call_max1X cc.calm cc.hu) ok_max1 (by rfl) h.z_max bb_max (da_cons (de_lc false cc (di_seq (de_var 5)) (blkOk_by (N := N__law_is_right) (sc := defScope s__law_is_right) (own := [("row", 11)]) (by decide +kernel)) (fun _ _ _ _ _ => (dg_name 11 cc.blk.nd rfl (.inl rfl))) (fun _ _ _ _ _ => (dts_one (DW.t (dw_and (dt_cmp (op_eqX cc.blk.hu) ok_eq (de_callB (call_sumX cc.blk.calm) ok_sumX (by rfl) h.z_sum bb_sum (da_cons (de_var 11) da_nil)) (de_var 6) (nomark _)) (dw_one (dt_cmp (op_eqX cc.blk.hu) ok_eq (de_callD (ok__law_noise h) cc.blk (by decide) (by rfl) (da_cons (de_var 1) (da_cons (de_var 11) da_nil))) (de_var 7) (nomark _))))))) (fun _ _ _ _ _ => (de_var 11))) da_nil)))
  (db_cons (ds_set 9 cc.nd rfl (.inl rfl) (de_lst false (da_cons (de_var 6) (da_cons (de_var 8) (da_cons (de_callB (call_max1X cc.calm cc.hu) ok_max1 (by rfl) h.z_max bb_max (da_cons (de_lc false cc (di_seq (de_var 5)) (blkOk_by (N := N__law_is_right) (sc := defScope s__law_is_right) (own := [("row", 11)]) (by decide +kernel)) (fun _ _ _ _ _ => (dg_name 11 cc.blk.nd rfl (.inl rfl))) (fun _ _ _ _ _ => dts_nil) (fun _ _ _ _ _ => (de_callD (ok__law_noise h) cc.blk (by decide) (by rfl) (da_cons (de_var 1) (da_cons (de_var 11) da_nil))))) da_nil)) (da_cons (de_callB call_lenX ok_len (by rfl) h.z_len bb_len (da_cons (de_var 5) da_nil)) da_nil))))))
  (db_cons (ds_if (dt_not (dt_val (de_callD (ok__law_is h 30) cc (by decide) (by rfl) (da_cons (de_lst false (da_cons (de_callD (ok_most_flights h) cc (by decide) (by rfl) (da_cons (de_var 1) (da_cons (de_var 4) da_nil))) (da_cons (de_callD (ok_quiet_flights h) cc (by decide) (by rfl) (da_cons (de_var 1) (da_cons (de_var 4) da_nil))) (da_cons (de_callD (ok_loudest h) cc (by decide) (by rfl) (da_cons (de_var 1) (da_cons (de_var 4) da_nil))) (da_cons (de_callD (ok_ways_many h) cc (by decide) (by rfl) (da_cons (de_var 1) (da_cons (de_var 4) da_nil))) da_nil))))) (da_cons (de_var 9) da_nil)))))
  (db_one (ds_ret de_bl))
  db_nil)
  (db_cons (ds_for cc (di_range1 (by rfl) h.z_range (da_cons de_int da_nil)) (dg_name 10 cc.nd rfl (.inl rfl))
  (db_cons (ds_set 11 cc.nd rfl (.inl rfl) (de_callD (ok__law_any h) cc (by decide) (by rfl) (da_cons (de_var 0) (da_cons (de_lst false (da_cons (de_var 8) (da_cons (de_callD (ok__law_any h) cc (by decide) (by rfl) (da_cons (de_var 0) (da_cons (de_var 2) da_nil))) (da_cons (de_callD (ok__law_any h) cc (by decide) (by rfl) (da_cons (de_var 0) (da_cons (de_var 5) da_nil))) da_nil)))) da_nil))))
  (db_cons (ds_par2 12 13 cc.calm cc.nd rfl rfl (by decide) rfl rfl (da_cons (de_callD (ok__law_draw h) cc (by decide) (by rfl) (da_cons (de_var 0) (da_cons (de_callB call_lenX ok_len (by rfl) h.z_len bb_len (da_cons (de_var 11) da_nil)) da_nil))) (da_cons (de_callD (ok__law_any h) cc (by decide) (by rfl) (da_cons (de_var 0) (da_cons (de_lst false (da_cons de_int (da_cons (de_un un_neg ok_neg de_int) (da_cons de_int (da_cons de_non (da_cons de_bl (da_cons de_str (da_cons (de_tup (da_cons de_int da_nil)) da_nil)))))))) da_nil))) da_nil)))
  (db_cons (ds_set 14 cc.nd rfl (.inl rfl) (de_if (DW.t (dw_and (dt_cmp (op_inX cc.hu) ok_in (de_var 13) (de_tup (da_cons de_int (da_cons (de_un un_neg ok_neg de_int) da_nil))) (by rfl)) (dw_one (dt_not (dt_val (de_callB call_isiX ok_isi (by rfl) h.z_isinstance bb_isinstance (da_cons (de_var 13) (da_cons (de_ty (T := .bool) (by rfl) h.z_bool bb_bool) da_nil)))))))) (de_bin op_addX ok_add (de_ix (j := 0) (de_var 11) (de_var 12)) (de_var 13)) (de_var 13)))
  (db_cons (ds_set 15 cc.nd rfl (.inl rfl) (de_callD (ok__law_any h) cc (by decide) (by rfl) (da_cons (de_var 0) (da_cons (de_lst false (da_cons (de_var 11) (da_cons (de_bin op_addX ok_add (de_bin op_addX ok_add (de_sl false (de_var 11) dp_no (dp_at (de_var 12))) (de_tup (da_cons (de_var 14) da_nil))) (de_sl false (de_var 11) (dp_at (de_bin op_addX ok_add (de_var 12) de_int)) dp_no)) (da_cons (de_callTy call_list_of ok_list (by rfl) h.z_list bb_list (da_cons (de_var 11) da_nil)) (da_cons (de_sl false (de_var 11) (dp_at de_int) dp_no) (da_cons (de_bin op_addX ok_add (de_var 11) (de_tup (da_cons de_int da_nil))) (da_cons de_non (da_cons de_int (da_cons (de_dic0 false) da_nil))))))))) da_nil))))
  (db_one (ds_if (dt_not (dt_val (de_callD (ok__law_is h 30) cc (by decide) (by rfl) (da_cons (de_callD (ok_is_flights h) cc (by decide) (by rfl) (da_cons (de_var 1) (da_cons (de_var 4) (da_cons (de_var 15) da_nil)))) (da_cons (de_callD (ok__law_is_flights h) cc (by decide) (by rfl) (da_cons (de_var 1) (da_cons (de_var 4) (da_cons (de_var 15) da_nil)))) da_nil)))))
  (db_one (ds_ret de_bl))
  db_nil)))))))
  (db_one (ds_ret (de_cmp (op_geX cc.hu) ok_ge (de_callD (ok_most_flights h) cc (by decide) (by rfl) (da_cons (de_var 1) (da_cons (de_callB (call_min2 cc.calm) ok_min2 (by rfl) h.z_min bb_min (da_cons de_int (da_cons (de_bin op_addX ok_add (de_bin op_addX ok_add (de_var 4) de_int) (de_callD (ok__law_draw h) cc (by decide) (by rfl) (da_cons (de_var 0) (da_cons de_int da_nil)))) da_nil))) da_nil))) (de_var 6) (nomark _))))))))))))))
theorem bi__law_is_right (kV doc pm : Value) (an : Option Addr) (cdv ct : Value) (us : List Value) (hl : us.length = 2) : bindArgs (PySem.W.fnOf "_law_is_right" "_law_is_right" (defArgs s__law_is_right) (defBody s__law_is_right) (defScope s__law_is_right) .none kV doc pm an cdv ct) ⟨us, []⟩ = pure ((["hand", "kinds"] : List Str).zip us) := match us, hl with | [_, _], _ => rfl
theorem ok__law_is_right {P : Program} {w : World} {K : PySem.W.Frag} {mg : Str → Option Value} {base : Heap} (h : Hd τ K mg base) : DefOk τ P w K mg base 31 2 "_law_is_right" g__law_is_right :=
  def_ok (b := b__law_is_right) (N := N__law_is_right) (ps := ["hand", "kinds"]) (st := s__law_is_right) h.d__law_is_right sc__law_is_right rfl bi__law_is_right (bd__law_is_right h)
abbrev N__law_no_kinds : List Str := ["hand", "some"]
theorem sc__law_no_kinds : FnScope N__law_no_kinds ["hand"] (defScope s__law_no_kinds) := ⟨rfl, rfl, rfl, by decide +kernel, rfl, by decide +kernel, by decide +kernel⟩
noncomputable def b__law_no_kinds : Sv := (sCons (sSet 1 (eLst false (aCons (eD .none) (aCons (eTup aNil) (aCons (eD (.int 5)) (aCons (eD (.str "x")) (aCons (eLst false (aCons (eTup (aCons (eD (.int 1)) (aCons (eD (.int 1)) aNil))) aNil)) (aCons (eTup (aCons (eTup (aCons (eD (.int 0)) (aCons (eD (.int 1)) aNil))) aNil)) (aCons (eTup (aCons (eTup (aCons (eD (.int 101)) (aCons (eD (.int 1)) aNil))) aNil)) (aCons (eTup (aCons (eTup (aCons (eD (.int 1)) (aCons (eUn oNeg (eD (.int 1))) aNil))) aNil)) (aCons (eTup (aCons (eTup (aCons (eD (.int 1)) (aCons (eD (.int 41)) aNil))) aNil)) (aCons (eTup (aCons (eTup (aCons (eD (.int 1)) aNil)) aNil)) (aCons (eTup (aCons (eTup (aCons (eD (.bool true)) (aCons (eD (.int 1)) aNil))) aNil)) (aCons (eBin (oMulT false) (eTup (aCons (eTup (aCons (eD (.int 1)) (aCons (eD (.int 1)) aNil))) aNil)) (eD (.int 7))) (aCons (eTup (aCons (eLst false (aCons (eD (.int 1)) (aCons (eD (.int 1)) aNil))) aNil)) (aCons (eDic0 false) aNil))))))))))))))))
  (sRet (eCallN 2 g__law_any (aCons (eVar 0) (aCons (eBin (oAdd false) (eVar 1) (eLst false (aCons (eTup (aCons (eTup (aCons (eD (.int 1)) (aCons (eD (.int 1)) (aCons (eD (.int 1)) aNil)))) aNil)) (aCons (eTup (aCons (eTup (aCons (eD (.int 1)) (aCons (eD .none) aNil))) aNil)) (aCons (eTup (aCons (eD .none) aNil)) aNil))))) aNil)))))
noncomputable def g__law_no_kinds : Fn := fnOf 2 b__law_no_kinds
theorem bd__law_no_kinds {P : Program} {w : World} {K : PySem.W.Frag} {mg : Str → Option Value} {base : Heap} (h : Hd τ K mg base) (f : Addr) (cdv : Value) (B : Around) (fs : List PySem.Env) (s : Shared) (H : Hp) (E : XK) (cc : Cc (cxD P w K mg base N__law_no_kinds "_law_no_kinds" s__law_no_kinds f cdv B fs s H E) (wD E) 2) : DB τ (cxD P w K mg base N__law_no_kinds "_law_no_kinds" s__law_no_kinds f cdv B fs s H E) (wD E) (defBody s__law_no_kinds) b__law_no_kinds :=
  (db_cons (ds_set 1 cc.nd rfl (.inl rfl) (de_lst false (da_cons de_non (da_cons (de_tup da_nil) (da_cons de_int (da_cons de_str (da_cons (de_lst false (da_cons (de_tup (da_cons de_int (da_cons de_int da_nil))) da_nil)) (da_cons (de_tup (da_cons (de_tup (da_cons de_int (da_cons de_int da_nil))) da_nil)) (da_cons (de_tup (da_cons (de_tup (da_cons de_int (da_cons de_int da_nil))) da_nil)) (da_cons (de_tup (da_cons (de_tup (da_cons de_int (da_cons (de_un un_neg ok_neg de_int) da_nil))) da_nil)) (da_cons (de_tup (da_cons (de_tup (da_cons de_int (da_cons de_int da_nil))) da_nil)) (da_cons (de_tup (da_cons (de_tup (da_cons de_int da_nil)) da_nil)) (da_cons (de_tup (da_cons (de_tup (da_cons de_bl (da_cons de_int da_nil))) da_nil)) (da_cons (de_bin op_mulT ok_mulT (de_tup (da_cons (de_tup (da_cons de_int (da_cons de_int da_nil))) da_nil)) de_int) (da_cons (de_tup (da_cons (de_lst false (da_cons de_int (da_cons de_int da_nil))) da_nil)) (da_cons (de_dic0 false) da_nil))))))))))))))))
  (db_one (ds_ret (de_callD (ok__law_any h) cc (by decide) (by rfl) (da_cons (de_var 0) (da_cons (de_bin op_addX ok_add (de_var 1) (de_lst false (da_cons (de_tup (da_cons (de_tup (da_cons de_int (da_cons de_int (da_cons de_int da_nil)))) da_nil)) (da_cons (de_tup (da_cons (de_tup (da_cons de_int (da_cons de_non da_nil))) da_nil)) (da_cons (de_tup (da_cons de_non da_nil)) da_nil))))) da_nil))))))
theorem bi__law_no_kinds (kV doc pm : Value) (an : Option Addr) (cdv ct : Value) (us : List Value) (hl : us.length = 1) : bindArgs (PySem.W.fnOf "_law_no_kinds" "_law_no_kinds" (defArgs s__law_no_kinds) (defBody s__law_no_kinds) (defScope s__law_no_kinds) .none kV doc pm an cdv ct) ⟨us, []⟩ = pure ((["hand"] : List Str).zip us) := match us, hl with | [_], _ => rfl
theorem ok__law_no_kinds {P : Program} {w : World} {K : PySem.W.Frag} {mg : Str → Option Value} {base : Heap} (h : Hd τ K mg base) : DefOk τ P w K mg base 3 1 "_law_no_kinds" g__law_no_kinds :=
  def_ok (b := b__law_no_kinds) (N := N__law_no_kinds) (ps := ["hand"]) (st := s__law_no_kinds) h.d__law_no_kinds sc__law_no_kinds rfl bi__law_no_kinds (bd__law_no_kinds h)
abbrev N__law_word : List Str := ["call", "e", "flags", "word"]
theorem sc__law_word : FnScope N__law_word ["call"] (defScope s__law_word) := ⟨rfl, rfl, rfl, by decide +kernel, rfl, by decide +kernel, by decide +kernel⟩
noncomputable def b__law_word (act : Ev) : Sv := (sCons (sTryAs 1
  (sExpr act)
  sub_FieldError (fun a y => (sCons (sSet 2 (eLst false (aCons (eIsK 1 a (kit_NoKinds y.cls)) (aCons (eIsK 1 a (kit_NoNumber y.cls)) aNil))))
  (sCons (sIf (tOr (tOf (eBin oNe (eMet vCount (eVar 2) (eD (.bool true))) (eD (.int 1)))) (tNot (tOf (eIsK 1 a (kit_ValueError y.cls)))))
  (sRet (eD (.str "other")))
  sNil)
  (sCons (sSet 3 (eBin oIx (eLst false (aCons (eD (.str "NoKinds")) (aCons (eD (.str "NoNumber")) aNil))) (eMet vIndex (eVar 2) (eD (.bool true)))))
  (sRet (eVar 3)))))))
  (sRet (eD (.str "told"))))
noncomputable def g__law_word (act : Ev) : Fn := fnOf 4 (b__law_word act)
theorem bd__law_word {P : Program} {w : World} {K : PySem.W.Frag} {mg : Str → Option Value} {base : Heap} (h : Hd τ K mg base) (f : Addr) (cdv : Value) (B : Around) (fs : List PySem.Env) (s : Shared) (H : Hp) (E : XK) (act : Ev) (cc : Cc (cxD P w K mg base N__law_word "_law_word" s__law_word f cdv B fs s H E) (wD E) 0) (ha : ∀ (W : WX) (pn : List (Addr × Obj)) (xe : Value → Shared → Prop) (p1 p2 : Pos), Takes ((cxD P w K mg base N__law_word "_law_word" s__law_word f cdv B fs s H E).tr pn xe) W → DE τ ((cxD P w K mg base N__law_word "_law_word" s__law_word f cdv B fs s H E).tr pn xe) W (.Call (.Name "call" p1) [] [] p2) act) : DB τ (cxD P w K mg base N__law_word "_law_word" s__law_word f cdv B fs s H E) (wD E) (defBody s__law_word) (b__law_word act) :=
  (db_cons (ds_tryF cc h.y_FieldError rfl (by rfl) (by rfl) (fun W' pn xe tk cc2 =>
  (db_one (ds_expr (ha _ _ _ _ _ tk))))
  (fun a oe y cls pn hy hz hf =>
  (db_cons (ds_set 2 cc.nd rfl (.inl rfl) (de_lst false (da_cons (de_isK h.i_NoKinds (by rfl) hy hz hf rfl (by rfl) h.z_isinstance) (da_cons (de_isK h.i_NoNumber (by rfl) hy hz hf rfl (by rfl) h.z_isinstance) da_nil))))
  (db_cons (ds_if (DW.t (dw_or (dt_cmp (op_neX cc.hu) ok_ne (de_met PySem.F.slot_list_count PySem.F.type_list_count (mt_countX cc.hu) ok_count (de_var 2) (da_cons de_bl da_nil)) de_int (nomark _)) (dw_or1 (dt_not (dt_val (de_isK h.i_ValueError (by rfl) hy hz hf rfl (by rfl) h.z_isinstance))))))
  (db_one (ds_ret de_str))
  db_nil)
  (db_cons (ds_set 3 cc.nd rfl (.inl rfl) (de_ix (j := 0) (de_lst false (da_cons de_str (da_cons de_str da_nil))) (de_met PySem.F.slot_list_index PySem.F.type_list_index (mt_indexX cc.hu) ok_index (de_var 2) (da_cons de_bl da_nil))))
  (db_one (ds_ret (de_var 3))))))))
  (db_one (ds_ret de_str)))
theorem bi__law_word (kV doc pm : Value) (an : Option Addr) (cdv ct : Value) (us : List Value) (hl : us.length = 1) : bindArgs (PySem.W.fnOf "_law_word" "_law_word" (defArgs s__law_word) (defBody s__law_word) (defScope s__law_word) .none kV doc pm an cdv ct) ⟨us, []⟩ = pure ((["call"] : List Str).zip us) := match us, hl with | [_], _ => rfl
theorem ok__law_word {P : Program} {w : World} {K : PySem.W.Frag} {mg : Str → Option Value} {base : Heap} (h : Hd τ K mg base) : LamOk τ P w K mg base 0 "_law_word" g__law_word :=
  lam_ok (b := b__law_word) (N := N__law_word) (st := s__law_word) h.d__law_word sc__law_word rfl (.inl rfl) (by decide) (by decide) (fun _ => rfl) bi__law_word (bd__law_word h)
abbrev N__law_are_refused : List Str := ["hand", "kinds", "bad", "noise", "words"]
theorem sc__law_are_refused : FnScope N__law_are_refused ["hand", "kinds"] (defScope s__law_are_refused) := ⟨rfl, rfl, rfl, by decide +kernel, rfl, by decide +kernel, by decide +kernel⟩
noncomputable def l0__law_are_refused : Ev := (eCallN 2 g_most_flights (aCons (eVar 2) (aCons (eVar 3) aNil)))
noncomputable def l1__law_are_refused : Ev := (eCallN 2 g_quiet_flights (aCons (eVar 2) (aCons (eVar 3) aNil)))
noncomputable def l2__law_are_refused : Ev := (eCallN 2 g_loudest (aCons (eVar 2) (aCons (eVar 3) aNil)))
noncomputable def l3__law_are_refused : Ev := (eCallN 2 g_ways_many (aCons (eVar 2) (aCons (eVar 3) aNil)))
noncomputable def l4__law_are_refused : Ev := (eCallN 3 g_is_flights (aCons (eVar 2) (aCons (eVar 3) (aCons (eD .none) aNil))))
noncomputable def l5__law_are_refused : Ev := (eCallN 2 g_most_flights (aCons (eVar 1) (aCons (eVar 3) aNil)))
noncomputable def l6__law_are_refused : Ev := (eCallN 2 g_quiet_flights (aCons (eVar 1) (aCons (eVar 3) aNil)))
noncomputable def l7__law_are_refused : Ev := (eCallN 2 g_loudest (aCons (eVar 1) (aCons (eVar 3) aNil)))
noncomputable def l8__law_are_refused : Ev := (eCallN 2 g_ways_many (aCons (eVar 1) (aCons (eVar 3) aNil)))
noncomputable def l9__law_are_refused : Ev := (eCallN 3 g_is_flights (aCons (eVar 1) (aCons (eVar 3) (aCons (eTup aNil) aNil))))
noncomputable def b__law_are_refused : Sv := (sCons (sPar [(gN 2), (gN 3)] (aCons (eCallN 1 g__law_no_kinds (aCons (eVar 0) aNil)) (aCons (eCallN 2 g__law_any (aCons (eVar 0) (aCons (eLst false (aCons (eUn oNeg (eD (.int 1))) (aCons (eD (.int 4001)) (aCons (eD (.bool true)) (aCons (eD .none) (aCons (eD (.str "5")) aNil)))))) aNil))) aNil)))
  (sCons (sSet 4 (eLst false (aCons (eLam g__law_word l0__law_are_refused) (aCons (eLam g__law_word l1__law_are_refused) (aCons (eLam g__law_word l2__law_are_refused) aNil)))))
  (sCons (sSet 4 (eBin (oAdd false) (eVar 4) (eLst false (aCons (eLam g__law_word l3__law_are_refused) (aCons (eLam g__law_word l4__law_are_refused) (aCons (eLam g__law_word l5__law_are_refused) aNil))))))
  (sCons (sSet 4 (eBin (oAdd false) (eVar 4) (eLst false (aCons (eLam g__law_word l6__law_are_refused) (aCons (eLam g__law_word l7__law_are_refused) aNil)))))
  (sRet (eBin oEq (eBin (oAdd false) (eVar 4) (eLst false (aCons (eLam g__law_word l8__law_are_refused) (aCons (eLam g__law_word l9__law_are_refused) aNil)))) (eBin (oAdd false) (eBin (oMul false) (eLst false (aCons (eD (.str "NoKinds")) aNil)) (eD (.int 5))) (eBin (oMul false) (eLst false (aCons (eD (.str "NoNumber")) aNil)) (eD (.int 5))))))))))
noncomputable def g__law_are_refused : Fn := fnOf 5 b__law_are_refused
theorem bd__law_are_refused {P : Program} {w : World} {K : PySem.W.Frag} {mg : Str → Option Value} {base : Heap} (h : Hd τ K mg base) (f : Addr) (cdv : Value) (B : Around) (fs : List PySem.Env) (s : Shared) (H : Hp) (E : XK) (lh : Lh τ (cxD P w K mg base N__law_are_refused "_law_are_refused" s__law_are_refused f cdv B fs s H E)) (cc : Cc (cxD P w K mg base N__law_are_refused "_law_are_refused" s__law_are_refused f cdv B fs s H E) (wD E) 8) : DB τ (cxD P w K mg base N__law_are_refused "_law_are_refused" s__law_are_refused f cdv B fs s H E) (wD E) (defBody s__law_are_refused) b__law_are_refused :=
  (db_cons (ds_parT (n := 2) cc.calm (da_cons (de_callD (ok__law_no_kinds h) cc (by decide) (by rfl) (da_cons (de_var 0) da_nil)) (da_cons (de_callD (ok__law_any h) cc (by decide) (by rfl) (da_cons (de_var 0) (da_cons (de_lst false (da_cons (de_un un_neg ok_neg de_int) (da_cons de_int (da_cons de_bl (da_cons de_non (da_cons de_str da_nil)))))) da_nil))) da_nil)) (dgs_cons (dg_name 2 cc.nd rfl (.inr rfl)) (dgs_cons (dg_name 3 cc.nd rfl (.inr rfl)) dgs_nil)))
  (db_cons (ds_set 4 cc.nd rfl (.inl rfl) (de_lst false (da_cons (de_lam (ok__law_word h) cc lh (by decide) (Nat.le_refl _) (by rfl) (lamN_by (N := N__law_are_refused) (sc := defScope s__law_are_refused) (ns := []) (by decide +kernel)) (.none rfl (fun _ _ _ _ _ _ _ => .of_eq rfl)) (fun A outer s H E f c' cl => (de_callD (ok_most_flights h) cl (by decide) (by rfl) (da_cons (de_var 2) (da_cons (de_var 3) da_nil))))) (da_cons (de_lam (ok__law_word h) cc lh (by decide) (Nat.le_refl _) (by rfl) (lamN_by (N := N__law_are_refused) (sc := defScope s__law_are_refused) (ns := ["of"]) (by decide +kernel)) (.int rfl rfl (fun _ _ _ T _ _ _ _ v hT => .of_defaults rfl hT rfl rfl rfl)) (fun A outer s H E f c' cl => (de_callD (ok_quiet_flights h) cl (by decide) (by rfl) (da_cons (de_var 2) (da_cons (de_var 3) da_nil))))) (da_cons (de_lam (ok__law_word h) cc lh (by decide) (Nat.le_refl _) (by rfl) (lamN_by (N := N__law_are_refused) (sc := defScope s__law_are_refused) (ns := ["no"]) (by decide +kernel)) (.int rfl rfl (fun _ _ _ T _ _ _ _ v hT => .of_defaults rfl hT rfl rfl rfl)) (fun A outer s H E f c' cl => (de_callD (ok_loudest h) cl (by decide) (by rfl) (da_cons (de_var 2) (da_cons (de_var 3) da_nil))))) da_nil)))))
  (db_cons (ds_set 4 cc.nd rfl (.inl rfl) (de_bin op_addX ok_add (de_var 4) (de_lst false (da_cons (de_lam (ok__law_word h) cc lh (by decide) (Nat.le_refl _) (by rfl) (lamN_by (N := N__law_are_refused) (sc := defScope s__law_are_refused) (ns := []) (by decide +kernel)) (.none rfl (fun _ _ _ _ _ _ _ => .of_eq rfl)) (fun A outer s H E f c' cl => (de_callD (ok_ways_many h) cl (by decide) (by rfl) (da_cons (de_var 2) (da_cons (de_var 3) da_nil))))) (da_cons (de_lam (ok__law_word h) cc lh (by decide) (Nat.le_refl _) (by rfl) (lamN_by (N := N__law_are_refused) (sc := defScope s__law_are_refused) (ns := ["of"]) (by decide +kernel)) (.int rfl rfl (fun _ _ _ T _ _ _ _ v hT => .of_defaults rfl hT rfl rfl rfl)) (fun A outer s H E f c' cl => (de_callD (ok_is_flights h) cl (by decide) (by rfl) (da_cons (de_var 2) (da_cons (de_var 3) (da_cons de_non da_nil)))))) (da_cons (de_lam (ok__law_word h) cc lh (by decide) (Nat.le_refl _) (by rfl) (lamN_by (N := N__law_are_refused) (sc := defScope s__law_are_refused) (ns := ["no"]) (by decide +kernel)) (.int rfl rfl (fun _ _ _ T _ _ _ _ v hT => .of_defaults rfl hT rfl rfl rfl)) (fun A outer s H E f c' cl => (de_callD (ok_most_flights h) cl (by decide) (by rfl) (da_cons (de_var 1) (da_cons (de_var 3) da_nil))))) da_nil))))))
  (db_cons (ds_set 4 cc.nd rfl (.inl rfl) (de_bin op_addX ok_add (de_var 4) (de_lst false (da_cons (de_lam (ok__law_word h) cc lh (by decide) (Nat.le_refl _) (by rfl) (lamN_by (N := N__law_are_refused) (sc := defScope s__law_are_refused) (ns := []) (by decide +kernel)) (.none rfl (fun _ _ _ _ _ _ _ => .of_eq rfl)) (fun A outer s H E f c' cl => (de_callD (ok_quiet_flights h) cl (by decide) (by rfl) (da_cons (de_var 1) (da_cons (de_var 3) da_nil))))) (da_cons (de_lam (ok__law_word h) cc lh (by decide) (Nat.le_refl _) (by rfl) (lamN_by (N := N__law_are_refused) (sc := defScope s__law_are_refused) (ns := ["of"]) (by decide +kernel)) (.int rfl rfl (fun _ _ _ T _ _ _ _ v hT => .of_defaults rfl hT rfl rfl rfl)) (fun A outer s H E f c' cl => (de_callD (ok_loudest h) cl (by decide) (by rfl) (da_cons (de_var 1) (da_cons (de_var 3) da_nil))))) da_nil)))))
  (db_one (ds_ret (de_cmp (op_eqX cc.hu) ok_eq (de_bin op_addX ok_add (de_var 4) (de_lst false (da_cons (de_lam (ok__law_word h) cc lh (by decide) (Nat.le_refl _) (by rfl) (lamN_by (N := N__law_are_refused) (sc := defScope s__law_are_refused) (ns := []) (by decide +kernel)) (.none rfl (fun _ _ _ _ _ _ _ => .of_eq rfl)) (fun A outer s H E f c' cl => (de_callD (ok_ways_many h) cl (by decide) (by rfl) (da_cons (de_var 1) (da_cons (de_var 3) da_nil))))) (da_cons (de_lam (ok__law_word h) cc lh (by decide) (Nat.le_refl _) (by rfl) (lamN_by (N := N__law_are_refused) (sc := defScope s__law_are_refused) (ns := ["of"]) (by decide +kernel)) (.int rfl rfl (fun _ _ _ T _ _ _ _ v hT => .of_defaults rfl hT rfl rfl rfl)) (fun A outer s H E f c' cl => (de_callD (ok_is_flights h) cl (by decide) (by rfl) (da_cons (de_var 1) (da_cons (de_var 3) (da_cons (de_tup da_nil) da_nil)))))) da_nil)))) (de_bin op_addX ok_add (de_bin op_mulX' ok_mul (de_lst false (da_cons de_str da_nil)) de_int) (de_bin op_mulX' ok_mul (de_lst false (da_cons de_str da_nil)) de_int)) (nomark _))))))))
theorem bi__law_are_refused (kV doc pm : Value) (an : Option Addr) (cdv ct : Value) (us : List Value) (hl : us.length = 2) : bindArgs (PySem.W.fnOf "_law_are_refused" "_law_are_refused" (defArgs s__law_are_refused) (defBody s__law_are_refused) (defScope s__law_are_refused) .none kV doc pm an cdv ct) ⟨us, []⟩ = pure ((["hand", "kinds"] : List Str).zip us) := match us, hl with | [_, _], _ => rfl
theorem ok__law_are_refused {P : Program} {w : World} {K : PySem.W.Frag} {mg : Str → Option Value} {base : Heap} (h : Hd τ K mg base) : DefOk τ P w K mg base 9 2 "_law_are_refused" g__law_are_refused :=
  def_okL (b := b__law_are_refused) (N := N__law_are_refused) (ps := ["hand", "kinds"]) (st := s__law_are_refused) h.d__law_are_refused sc__law_are_refused rfl bi__law_are_refused (bd__law_are_refused h)
abbrev N_law : List Str := ["script", "hand", "known", "told", "turn", "kinds"]
theorem sc_law : FnScope N_law ["script"] (defScope s_law) := ⟨rfl, rfl, rfl, by decide +kernel, rfl, by decide +kernel, by decide +kernel⟩
noncomputable def t0_law : Sv := (sSet 1 (eCallN 1 g__law_hand (aCons (eVar 0) aNil)))
noncomputable def t1_law : Sv := (sSet 2 (eTup (aCons (eTup (aCons (eD (.int 5)) (aCons (eD (.int 2)) aNil))) (aCons (eTup (aCons (eD (.int 3)) (aCons (eD (.int 1)) aNil))) (aCons (eTup (aCons (eD (.int 5)) (aCons (eD (.int 2)) aNil))) aNil)))))
noncomputable def t2_law : Sv := (sSet 3 (eLst false (aCons (eCallN 2 g_most_flights (aCons (eVar 2) (aCons (eD (.int 14)) aNil))) (aCons (eCallN 2 g_quiet_flights (aCons (eVar 2) (aCons (eD (.int 14)) aNil))) (aCons (eCallN 2 g_loudest (aCons (eVar 2) (aCons (eD (.int 14)) aNil))) (aCons (eCallN 2 g_ways_many (aCons (eVar 2) (aCons (eD (.int 5)) aNil))) aNil))))))
noncomputable def t3_law : Sv := (sIf (tNot (tOf (eCallN 2 (g__law_is 30) (aCons (eVar 3) (aCons (eLst false (aCons (eD (.int 3)) (aCons (eTup (aCons (eD (.int 2)) (aCons (eD (.int 1)) (aCons (eD (.int 0)) aNil)))) (aCons (eD (.int 13)) (aCons (eD (.int 4)) aNil))))) aNil)))))
  (sRet (eD (.bool false)))
  sNil)
noncomputable def l0_law : Sv := (sCons (sSet 5 (eCallN 1 g__law_kinds (aCons (eVar 1) aNil)))
  (sIf (tOr (tNot (tOf (eCallN 2 g__law_is_right (aCons (eVar 1) (aCons (eVar 5) aNil))))) (tNot (tOf (eCallN 2 g__law_are_refused (aCons (eVar 1) (aCons (eVar 5) aNil))))))
  (sRet (eD (.bool false)))
  sNil))
noncomputable def t4_law : Sv := (sFor (iRange (aCons (eD (.int 5)) aNil)) (gN 4) l0_law)
noncomputable def t5_law : Sv := (sRet (eD (.bool true)))
noncomputable def b_law : Sv := (sCons t0_law
  (sCons t1_law
  (sCons t2_law
  (sCons t3_law
  (sCons t4_law
  t5_law)))))
noncomputable def g_law : Fn := fnOf 6 b_law
theorem bd_law {P : Program} {w : World} {K : PySem.W.Frag} {mg : Str → Option Value} {base : Heap} (h : Hd τ K mg base) (f : Addr) (cdv : Value) (B : Around) (fs : List PySem.Env) (s : Shared) (H : Hp) (E : XK) (cc : Cc (cxD P w K mg base N_law "law" s_law f cdv B fs s H E) (wD E) 31) : DB τ (cxD P w K mg base N_law "law" s_law f cdv B fs s H E) (wD E) (defBody s_law) b_law :=
  (db_cons (ds_set 1 cc.nd rfl (.inl rfl) (de_callD (ok__law_hand h) cc (by decide) (by rfl) (da_cons (de_var 0) da_nil)))
  (db_cons (ds_set 2 cc.nd rfl (.inl rfl) (de_tup (da_cons (de_tup (da_cons de_int (da_cons de_int da_nil))) (da_cons (de_tup (da_cons de_int (da_cons de_int da_nil))) (da_cons (de_tup (da_cons de_int (da_cons de_int da_nil))) da_nil)))))
  (db_cons (ds_set 3 cc.nd rfl (.inl rfl) (de_lst false (da_cons (de_callD (ok_most_flights h) cc (by decide) (by rfl) (da_cons (de_var 2) (da_cons de_int da_nil))) (da_cons (de_callD (ok_quiet_flights h) cc (by decide) (by rfl) (da_cons (de_var 2) (da_cons de_int da_nil))) (da_cons (de_callD (ok_loudest h) cc (by decide) (by rfl) (da_cons (de_var 2) (da_cons de_int da_nil))) (da_cons (de_callD (ok_ways_many h) cc (by decide) (by rfl) (da_cons (de_var 2) (da_cons de_int da_nil))) da_nil))))))
  (db_cons (ds_if (dt_not (dt_val (de_callD (ok__law_is h 30) cc (by decide) (by rfl) (da_cons (de_var 3) (da_cons (de_lst false (da_cons de_int (da_cons (de_tup (da_cons de_int (da_cons de_int (da_cons de_int da_nil)))) (da_cons de_int (da_cons de_int da_nil))))) da_nil)))))
  (db_one (ds_ret de_bl))
  db_nil)
  (db_cons (ds_for cc (di_range1 (by rfl) h.z_range (da_cons de_int da_nil)) (dg_name 4 cc.nd rfl (.inl rfl))
  (db_cons (ds_set 5 cc.nd rfl (.inl rfl) (de_callD (ok__law_kinds h) cc (by decide) (by rfl) (da_cons (de_var 1) da_nil)))
  (db_one (ds_if (DW.t (dw_or (dt_not (dt_val (de_callD (ok__law_is_right h) cc (by decide) (by rfl) (da_cons (de_var 1) (da_cons (de_var 5) da_nil))))) (dw_or1 (dt_not (dt_val (de_callD (ok__law_are_refused h) cc (by decide) (by rfl) (da_cons (de_var 1) (da_cons (de_var 5) da_nil))))))))
  (db_one (ds_ret de_bl))
  db_nil))))
  (db_one (ds_ret de_bl)))))))
theorem ok_law {P : Program} {w : World} {K : PySem.W.Frag} {mg : Str → Option Value} {base : Heap} {fa : Addr} {fd : FuncData} (h : Hd τ K mg base) (hfa : mg "law" = some (.ref fa)) (same : ∃ (oc : Value) (od : Option Addr) (osl : Array (Option Value)), K.lookup fa = some ⟨oc, od, .func fd, osl⟩) : Fk P w K mg base 32 fa fd ["script"] (spN τ K mg 1 g_law) :=
  law_endF (b := b_law) (N := N_law) (st := s_law) h.d_law hfa sc_law (bd_law h) same
abbrev Kd := Int × Int
def noi : List Kd → List Int → Int
  | k :: ks, f :: fs => k.1 * f + noi ks fs
  | _, _ => 0
theorem noi_zip : ∀ (ks : List Kd) (fs : List Int), ((List.zip ks fs).map fun p => p.1.1 * p.2).sum = noi ks fs := by
  intro ks
  induction ks with
  | nil => intro fs; simp [noi]
  | cons k ks ih =>
    intro fs
    cases fs with
    | nil => simp [noi]
    | cons f fs => simp [noi, ih]
def lo (ks : List Kd) (i : Nat) : Int := (ks.getD i (0, 0)).1
def wa (ks : List Kd) (i : Nat) : Int := (ks.getD i (0, 0)).2
@[simp] theorem lo_0 {k : Kd} {ks : List Kd} : lo (k :: ks) 0 = k.1 := rfl
@[simp] theorem wa_0 {k : Kd} {ks : List Kd} : wa (k :: ks) 0 = k.2 := rfl
@[simp] theorem lo_s {k : Kd} {ks : List Kd} {i : Nat} : lo (k :: ks) (i + 1) = lo ks i := by simp [lo]
@[simp] theorem wa_s {k : Kd} {ks : List Kd} {i : Nat} : wa (k :: ks) (i + 1) = wa ks i := by simp [wa]
@[simp] theorem at_0 {f : Int} {fs : List Int} : atN (f :: fs) 0 = f := rfl
@[simp] theorem at_s {f : Int} {fs : List Int} {i : Nat} : atN (f :: fs) (i + 1) = atN fs i := by simp [atN]
theorem noi_set : ∀ (ks : List Kd) (F : List Int) (i : Nat) (x : Int), F.length = ks.length → i < F.length → noi ks (F.set i x) = noi ks F + lo ks i * (x - atN F i) := by
  intro ks
  induction ks with
  | nil => intro F i x h hi; simp at h; subst h; simp at hi
  | cons k ks ih =>
    intro F i x h hi
    cases F with
    | nil => simp at h
    | cons f fs =>
      cases i with
      | zero =>
        simp [noi, Int.mul_sub]
        omega
      | succ i =>
        have := ih fs i x (by simpa using h) (by simpa using hi)
        simp [noi, this]
        omega
theorem sum_set : ∀ (F : List Int) (i : Nat) (x : Int), i < F.length → (F.set i x).sum = F.sum + (x - atN F i) := by
  intro F
  induction F with
  | nil => intro i x h; simp at h
  | cons f fs ih =>
    intro i x h
    cases i with
    | zero => simp; omega
    | succ i =>
      have := ih i x (by simpa using h)
      simp [this]
      omega
theorem at_set {F : List Int} {i j : Nat} {x : Int} (h : i < F.length) : atN (F.set i x) j = if i = j then x else atN F j := by
  unfold atN
  rw [List.getD_eq_getElem?_getD, List.getD_eq_getElem?_getD, List.getElem?_set]
  by_cases q : i = j
  · subst q; simp [h]
  · simp [q]
theorem noi_thr : ∀ (ks : List Kd) (f F : List Int) (L : Int), f.length = ks.length → F.length = ks.length → (∀ i, i < ks.length → L * (atN f i - atN F i) ≤ lo ks i * (atN f i - atN F i)) → L * (f.sum - F.sum) ≤ noi ks f - noi ks F := by
  intro ks
  induction ks with
  | nil =>
    intro f F L h1 h2 _
    simp at h1 h2
    subst h1 h2
    simp [noi]
  | cons k ks ih =>
    intro f F L h1 h2 h
    cases f with
    | nil => simp at h1
    | cons x f =>
      cases F with
      | nil => simp at h2
      | cons y F =>
        have h0 := h 0 (by simp)
        have := ih f F L (by simpa using h1) (by simpa using h2) (fun i hi => by simpa using h (i + 1) (by simpa using hi))
        simp [noi, List.sum_cons] at *
        have e1 : L * (x + f.sum - (y + F.sum)) = L * (x - y) + L * (f.sum - F.sum) := by
          rw [← Int.mul_add]; congr 1; omega
        have e2 : k.1 * (x - y) = k.1 * x - k.1 * y := Int.mul_sub _ _ _
        omega
theorem sum_le : ∀ (f F : List Int), f.length = F.length → (∀ i, i < F.length → atN f i ≤ atN F i) → f.sum ≤ F.sum := by
  intro f
  induction f with
  | nil =>
    intro F h _
    cases F with
    | nil => exact Int.le_refl _
    | cons _ _ => simp at h
  | cons x f ih =>
    intro F h h2
    cases F with
    | nil => simp at h
    | cons y F =>
      have h0 := h2 0 (by simp)
      have := ih F (by simpa using h) (fun i hi => by simpa using h2 (i + 1) (by simpa using hi))
      simp at *
      omega
theorem sum_lt : ∀ (f F : List Int), f.length = F.length → (∀ i, i < F.length → atN f i ≤ atN F i) → (∃ i, i < F.length ∧ atN f i < atN F i) → f.sum < F.sum := by
  intro f
  induction f with
  | nil =>
    intro F h _ h3
    cases F with
    | nil => obtain ⟨i, hi, _⟩ := h3; simp at hi
    | cons _ _ => simp at h
  | cons x f ih =>
    intro F h h2 h3
    cases F with
    | nil => simp at h
    | cons y F =>
      have h0 := h2 0 (by simp)
      have hr : ∀ i, i < F.length → atN f i ≤ atN F i := fun i hi => by simpa using h2 (i + 1) (by simpa using hi)
      obtain ⟨i, hi, q⟩ := h3
      cases i with
      | zero =>
        have := sum_le f F (by simpa using h) hr
        simp at *
        omega
      | succ i =>
        have := ih F (by simpa using h) hr ⟨i, by simpa using hi, by simpa using q⟩
        simp at *
        omega
def qF (ks : List Kd) : List (Int × Nat) → List Int → Int → List Int
  | [], F, _ => F
  | p :: r, F, l => qF ks r (F.set p.2 (min (wa ks p.2) (l / p.1))) (l - min (wa ks p.2) (l / p.1) * p.1)
theorem set_same {F : List Int} {i : Nat} (h : i < F.length) : F.set i (atN F i) = F := by
  apply List.ext_getElem
  · simp
  · intro j h1 h2
    rw [List.getElem_set]
    by_cases q : i = j
    · subst q; simp [atN_lt h]
    · simp [q]
theorem q_zero {ks : List Kd} : ∀ (o : List (Int × Nat)) (F : List Int) (l : Int), 0 ≤ l → (∀ p ∈ o, l < p.1 ∧ 0 ≤ wa ks p.2 ∧ p.2 < F.length ∧ atN F p.2 = 0) → qF ks o F l = F := by
  intro o
  induction o with
  | nil => intro F l _ _; rfl
  | cons p r ih =>
    intro F l h0 h
    obtain ⟨a, b, c, d⟩ := h p (by simp)
    have e : l / p.1 = 0 := Int.ediv_eq_zero_of_lt h0 a
    have e2 : min (wa ks p.2) (l / p.1) = 0 := by rw [e]; omega
    rw [qF, e2]
    have s : F.set p.2 0 = F := by
      have := set_same c
      rwa [d] at this
    rw [s, Int.zero_mul, Int.sub_zero]
    exact ih F l h0 fun q hq => h q (by simp [hq])
def bef (p q : Int × Nat) : Prop := p.1 < q.1 ∨ (p.1 = q.1 ∧ p.2 < q.2)
structure Gr (ks : List Kd) (o : List (Int × Nat)) (F G : List Int) (z : Int) : Prop where
  len : G.length = ks.length
  oth : ∀ i, (∀ p ∈ o, p.2 ≠ i) → atN G i = atN F i
  bd : ∀ p ∈ o, 0 ≤ atN G p.2 ∧ atN G p.2 ≤ wa ks p.2
  le : noi ks G ≤ z
  alt : (∀ p ∈ o, atN G p.2 = wa ks p.2) ∨ ∃ q ∈ o, atN G q.2 < wa ks q.2 ∧ z < noi ks G + q.1 ∧ ∀ p ∈ o, (bef p q → atN G p.2 = wa ks p.2) ∧ (bef q p → atN G p.2 = 0)
theorem greedy {ks : List Kd} : ∀ (o : List (Int × Nat)) (F : List Int) (l : Int), 0 ≤ l → F.length = ks.length → (∀ p ∈ o, p.2 < ks.length ∧ p.1 = lo ks p.2 ∧ 1 ≤ p.1 ∧ atN F p.2 = 0 ∧ 0 ≤ wa ks p.2) → o.Pairwise bef → (o.map (·.2)).Nodup → Gr ks o F (qF ks o F l) (noi ks F + l) := by
  intro o
  induction o with
  | nil =>
    intro F l h0 hl _ _ _
    exact ⟨hl, fun i _ => rfl, by simp, by show noi ks F ≤ _; omega, .inl (by simp)⟩
  | cons p r ih =>
    intro F l h0 hl h ps nd
    obtain ⟨a, b, c, d, e⟩ := h p (by simp)
    rw [List.pairwise_cons] at ps
    rw [List.map_cons, List.nodup_cons] at nd
    have hp : p.2 < F.length := by omega
    have hne : ∀ q ∈ r, q.2 ≠ p.2 := fun q hq he => nd.1 (by rw [← he]; exact List.mem_map_of_mem hq)
    have dm := Int.mul_ediv_add_emod l p.1
    have m0 := Int.emod_nonneg l (show p.1 ≠ 0 by omega)
    have m1 := Int.emod_lt_of_pos l (show 0 < p.1 by omega)
    have q0 : 0 ≤ l / p.1 := Int.ediv_nonneg h0 (by omega)
    have sp := noi_set ks F p.2 (min (wa ks p.2) (l / p.1)) hl hp
    rw [d, Int.sub_zero, ← b] at sp
    have r' : ∀ q ∈ r, q.2 < ks.length ∧ q.1 = lo ks q.2 ∧ 1 ≤ q.1 ∧ atN (F.set p.2 (min (wa ks p.2) (l / p.1))) q.2 = 0 ∧ 0 ≤ wa ks q.2 := fun q hq => by
      obtain ⟨a1, b1, c1, d1, e1⟩ := h q (by simp [hq])
      refine ⟨a1, b1, c1, ?_, e1⟩
      rw [at_set hp, if_neg (fun z => hne q hq z.symm)]
      exact d1
    by_cases full : wa ks p.2 ≤ l / p.1
    · have em : min (wa ks p.2) (l / p.1) = wa ks p.2 := by omega
      rw [qF]
      rw [em] at sp r' ⊢
      have mw : wa ks p.2 * p.1 ≤ (l / p.1) * p.1 := Int.mul_le_mul_of_nonneg_right full (by omega)
      have cm : (l / p.1) * p.1 = p.1 * (l / p.1) := Int.mul_comm _ _
      have cm2 : wa ks p.2 * p.1 = p.1 * wa ks p.2 := Int.mul_comm _ _
      have G := ih (F.set p.2 (wa ks p.2)) (l - wa ks p.2 * p.1) (by omega) (by simpa using hl) r' ps.2 nd.2
      rw [sp, show noi ks F + p.1 * wa ks p.2 + (l - wa ks p.2 * p.1) = noi ks F + l by omega] at G
      generalize qF ks r (F.set p.2 (wa ks p.2)) (l - wa ks p.2 * p.1) = X at *
      have xp : atN X p.2 = wa ks p.2 := by
        rw [G.oth p.2 hne, at_set hp, if_pos rfl]
      refine ⟨G.len, fun i hi => ?_, fun q hq => ?_, G.le, ?_⟩
      · rw [G.oth i (fun q hq => hi q (by simp [hq])), at_set hp, if_neg (hi p (by simp))]
      · rcases List.mem_cons.mp hq with rfl | hq
        · rw [xp]; exact ⟨e, Int.le_refl _⟩
        · exact G.bd q hq
      · rcases G.alt with al | ⟨q, hq, q1, q2, q3⟩
        · left
          intro q hq
          rcases List.mem_cons.mp hq with rfl | hq
          · exact xp
          · exact al q hq
        · right
          refine ⟨q, by simp [hq], q1, q2, fun s hs => ?_⟩
          rcases List.mem_cons.mp hs with rfl | hs
          · have := ps.1 q hq
            exact ⟨fun _ => xp, fun w => by unfold bef at this w; omega⟩
          · exact q3 s hs
    · have em : min (wa ks p.2) (l / p.1) = l / p.1 := by omega
      rw [qF]
      rw [em] at sp r' ⊢
      have cm : (l / p.1) * p.1 = p.1 * (l / p.1) := Int.mul_comm _ _
      have el : l - (l / p.1) * p.1 = l % p.1 := by omega
      rw [el]
      have fl : (F.set p.2 (l / p.1)).length = F.length := by simp
      have z := q_zero (ks := ks) r (F.set p.2 (l / p.1)) (l % p.1) m0 (fun q hq => by
        obtain ⟨a1, b1, c1, d1, e1⟩ := r' q hq
        have := ps.1 q hq
        unfold bef at this
        exact ⟨by omega, e1, by omega, d1⟩)
      rw [z]
      have xp : atN (F.set p.2 (l / p.1)) p.2 = l / p.1 := by rw [at_set hp, if_pos rfl]
      refine ⟨by omega, fun i hi => ?_, fun q hq => ?_, by omega, .inr ⟨p, by simp, by omega, by omega, fun q hq => ?_⟩⟩
      · rw [at_set hp, if_neg (hi p (by simp))]
      · rcases List.mem_cons.mp hq with rfl | hq
        · rw [xp]; omega
        · obtain ⟨a1, b1, c1, d1, e1⟩ := r' q hq
          rw [d1]; exact ⟨Int.le_refl _, e1⟩
      · rcases List.mem_cons.mp hq with rfl | hq
        · exact ⟨fun w => by unfold bef at w; omega, fun w => by unfold bef at w; omega⟩
        · obtain ⟨a1, b1, c1, d1, e1⟩ := r' q hq
          have := ps.1 q hq
          exact ⟨fun w => by unfold bef at this w; omega, fun _ => d1⟩
def Rw : List Kd → List Int → Prop
  | [], [] => True
  | k :: ks, f :: fs => (0 ≤ f ∧ f ≤ k.2) ∧ Rw ks fs
  | _, _ => False
theorem rw_ix : ∀ (ks : List Kd) (f : List Int), Rw ks f ↔ f.length = ks.length ∧ ∀ i, i < ks.length → 0 ≤ atN f i ∧ atN f i ≤ wa ks i := by
  intro ks
  induction ks with
  | nil =>
    intro f
    cases f with
    | nil => simp [Rw]
    | cons x f => simp [Rw]
  | cons k ks ih =>
    intro f
    cases f with
    | nil => simp [Rw]
    | cons x f =>
      rw [Rw, ih]
      constructor
      · intro ⟨h1, h2, h3⟩
        refine ⟨by simp [h2], fun i hi => ?_⟩
        cases i with
        | zero => simpa using h1
        | succ i => simpa using h3 i (by simpa using hi)
      · intro ⟨h2, h3⟩
        exact ⟨by simpa using h3 0 (by simp), by simpa using h2, fun i hi => by simpa using h3 (i + 1) (by simpa using hi)⟩
structure OkK (ks : List Kd) : Prop where
  l1 : 1 ≤ ks.length
  l2 : ks.length ≤ 6
  al : ∀ k ∈ ks, (1 ≤ k.1 ∧ k.1 ≤ 100) ∧ (0 ≤ k.2 ∧ k.2 ≤ 40)
theorem kd_mem {ks : List Kd} {i : Nat} (h : i < ks.length) : (lo ks i, wa ks i) ∈ ks := by
  have e : (lo ks i, wa ks i) = ks[i] := by simp [lo, wa, h]
  rw [e]
  exact List.getElem_mem h
theorem OkK.lo {ks : List Kd} (h : OkK ks) {i : Nat} (hi : i < ks.length) : 1 ≤ lo ks i ∧ lo ks i ≤ 100 := (h.al _ (kd_mem hi)).1
theorem OkK.wa {ks : List Kd} (h : OkK ks) {i : Nat} (hi : i < ks.length) : 0 ≤ wa ks i ∧ wa ks i ≤ 40 := (h.al _ (kd_mem hi)).2
abbrev Pk := Int × Nat
def ekD (p : Pk) : D := .tuple [.int p.1, .int (p.2 : Nat)]
def ltK (p q : Pk) : Bool := decide (p.1 < q.1 ∨ (p.1 = q.1 ∧ p.2 < q.2))
def leK (p q : Pk) : Bool := !ltK q p
def enu (ks : List Kd) : List Pk := (List.range ks.length).map fun i => (lo ks i, i)
def ord (ks : List Kd) : List Pk := (enu ks).mergeSort leK
theorem ltK_dlt (p q : Pk) : PySem.W.dataLt (ekD p) (ekD q) = ltK p q := by
  unfold ekD
  rw [PySem.W.dataLt_ii]
  unfold ltK
  rw [Bool.eq_iff_iff]
  simp
theorem sort_ek (L : List Pk) : sortD (L.map ekD) = (L.mergeSort leK).map ekD := by
  unfold sortD
  rw [← List.map_mergeSort]
  intro a _ b _
  rw [PySem.W.dataLe_eq]
  show leK a b = (!PySem.W.dataLt (ekD b) (ekD a))
  rw [ltK_dlt]
  unfold leK
  rfl
theorem ok_ek (L : List Pk) : seqOk (L.map ekD) = true ∧ sortB (L.map ekD) = true := by
  have p : PyData.plainAll (L.map ekD) = true ∧ PyData.depthAll (L.map ekD) ≤ 2 := by
    induction L with
    | nil => simp [PyData.plainAll, PyData.depthAll]
    | cons t L ih =>
      have ih2 := ih.2
      simp [ekD, PyData.plainAll, PyData.plain, PyData.depthAll, PyData.depth, ih.1]
      omega
  constructor
  · unfold seqOk
    simp [p.1]
    omega
  · have a : alikeOk (L.map ekD) = true := by
      unfold alikeOk
      simp [isNone, ekD]
      simp [PySem.W.alike, PySem.W.alikeAll]
    unfold sortB
    rw [a]
    simp [ekD]
theorem leK_trans (a b c : Pk) (h1 : leK a b = true) (h2 : leK b c = true) : leK a c = true := by
  unfold leK ltK at *
  simp at *
  omega
theorem leK_total (a b : Pk) : (leK a b || leK b a) = true := by
  unfold leK ltK
  simp
  omega
theorem ord_perm (ks : List Kd) : (ord ks).Perm (enu ks) := List.mergeSort_perm _ _
theorem ord_st (ks : List Kd) : (ord ks).Pairwise (fun a b => a.1 ≤ b.1) := by
  have := List.pairwise_mergeSort (le := leK) leK_trans leK_total (enu ks)
  exact this.imp fun {a b} h => by
    unfold leK ltK at h
    simp at h
    omega
theorem ord_mem {ks : List Kd} {p : Pk} : p ∈ ord ks ↔ p.2 < ks.length ∧ p.1 = lo ks p.2 := by
  rw [(ord_perm ks).mem_iff]
  unfold enu
  rw [List.mem_map]
  constructor
  · rintro ⟨i, hi, rfl⟩
    exact ⟨by simpa using hi, rfl⟩
  · intro ⟨h1, h2⟩
    exact ⟨p.2, by simpa using h1, by rw [← h2]⟩
theorem ord_nd (ks : List Kd) : ((ord ks).map (·.2)).Nodup := by
  have p := (ord_perm ks).map (·.2)
  rw [p.nodup_iff]
  unfold enu
  rw [List.map_map]
  show ((List.range ks.length).map fun i => i).Nodup
  rw [List.map_id']
  exact List.nodup_range
theorem ord_bef (ks : List Kd) : (ord ks).Pairwise bef := by
  have a : (ord ks).Pairwise (fun a b => leK a b = true) := List.pairwise_mergeSort leK_trans leK_total (enu ks)
  have b := ord_nd ks
  unfold List.Nodup at b
  rw [List.pairwise_map] at b
  refine (a.and b).imp fun {p q} h => ?_
  obtain ⟨h1, h2⟩ := h
  unfold leK ltK at h1
  unfold bef
  simp at h1
  omega
def quiet (ks : List Kd) (z : Int) : List Int := qF ks (ord ks) (List.replicate ks.length 0) z
theorem at_rep {n i : Nat} : atN (List.replicate n 0) i = 0 := by
  unfold atN
  rw [List.getD_eq_getElem?_getD, List.getElem?_replicate]
  split <;> rfl
theorem noi_rep : ∀ (ks : List Kd), noi ks (List.replicate ks.length 0) = 0 := by
  intro ks
  induction ks with
  | nil => rfl
  | cons k ks ih => simp [List.replicate_succ, noi, ih]
theorem quiet_gr {ks : List Kd} {z : Int} (h : OkK ks) (h0 : 0 ≤ z) : Gr ks (ord ks) (List.replicate ks.length 0) (quiet ks z) z := by
  have := greedy (ks := ks) (ord ks) (List.replicate ks.length 0) z h0 (by simp) (fun p hp => by
    obtain ⟨a, b⟩ := ord_mem.mp hp
    have l := h.lo a
    exact ⟨a, b, by omega, at_rep, (h.wa a).1⟩) (ord_bef ks) (ord_nd ks)
  rw [noi_rep, Int.zero_add] at this
  exact this
structure Qt (ks : List Kd) (G : List Int) (z : Int) : Prop where
  rw : Rw ks G
  le : noi ks G ≤ z
  alt : (∀ i, i < ks.length → atN G i = wa ks i) ∨ ∃ j, j < ks.length ∧ atN G j < wa ks j ∧ z < noi ks G + lo ks j ∧ ∀ i, i < ks.length → (lo ks i < lo ks j → atN G i = wa ks i) ∧ (lo ks j < lo ks i → atN G i = 0)
theorem quiet_qt {ks : List Kd} {z : Int} (h : OkK ks) (h0 : 0 ≤ z) : Qt ks (quiet ks z) z := by
  have g := quiet_gr h h0
  have om : ∀ i, i < ks.length → (lo ks i, i) ∈ ord ks := fun i hi => ord_mem.mpr ⟨hi, rfl⟩
  refine ⟨(rw_ix _ _).mpr ⟨g.len, fun i hi => g.bd _ (om i hi)⟩, g.le, ?_⟩
  rcases g.alt with a | ⟨q, hq, q1, q2, q3⟩
  · exact .inl fun i hi => a _ (om i hi)
  · obtain ⟨a, b⟩ := ord_mem.mp hq
    rw [b] at q2
    exact .inr ⟨q.2, a, q1, q2, fun i hi => ⟨fun w => (q3 _ (om i hi)).1 (.inl (by rw [b]; exact w)), fun w => (q3 _ (om i hi)).2 (.inl (by rw [b]; exact w))⟩⟩
section
variable {ks : List Kd} {G : List Int} {z : Int}
theorem qt_thr (h : OkK ks) (g : Qt ks G z) {j : Nat} (hj : j < ks.length) (a : ∀ i, i < ks.length → (lo ks i < lo ks j → atN G i = wa ks i) ∧ (lo ks j < lo ks i → atN G i = 0)) {f : List Int} (hf : Rw ks f) : lo ks j * (f.sum - G.sum) ≤ noi ks f - noi ks G := by
  obtain ⟨l1, b1⟩ := (rw_ix _ _).mp hf
  obtain ⟨l2, b2⟩ := (rw_ix _ _).mp g.rw
  refine noi_thr ks f G (lo ks j) l1 l2 fun i hi => ?_
  have := a i hi
  have c1 := b1 i hi
  have c2 := b2 i hi
  rcases Int.lt_trichotomy (lo ks i) (lo ks j) with q | q | q
  · have e := this.1 q
    have : 0 ≤ (lo ks j - lo ks i) * (atN G i - atN f i) := Int.mul_nonneg (by omega) (by omega)
    have e1 : (lo ks j - lo ks i) * (atN G i - atN f i) = lo ks i * (atN f i - atN G i) - lo ks j * (atN f i - atN G i) := by
      simp only [Int.sub_mul, Int.mul_sub]
      omega
    omega
  · rw [q]; exact Int.le_refl _
  · have e := this.2 q
    exact Int.mul_le_mul_of_nonneg_right (by omega) (by omega)
theorem qt_best (h : OkK ks) (g : Qt ks G z) {f : List Int} (hf : Rw ks f) (hz : noi ks f ≤ z) : f.sum ≤ G.sum := by
  obtain ⟨l1, b1⟩ := (rw_ix _ _).mp hf
  obtain ⟨l2, b2⟩ := (rw_ix _ _).mp g.rw
  rcases g.alt with a | ⟨j, hj, j1, j2, j3⟩
  · exact sum_le f G (by omega) fun i hi => by
      have := (b1 i (by omega)).2
      have := a i (by omega)
      omega
  · have t := qt_thr h g hj j3 hf
    have p := (h.lo hj).1
    by_cases q : f.sum ≤ G.sum
    · exact q
    · exfalso
      have : lo ks j * 1 ≤ lo ks j * (f.sum - G.sum) := Int.mul_le_mul_of_nonneg_left (by omega) (by omega)
      omega
theorem rw_more (g : Qt ks G z) {j : Nat} (hj : j < ks.length) (h1 : atN G j < wa ks j) : Rw ks (G.set j (atN G j + 1)) ∧ (G.set j (atN G j + 1)).sum = G.sum + 1 ∧ noi ks (G.set j (atN G j + 1)) = noi ks G + lo ks j := by
  obtain ⟨l2, b2⟩ := (rw_ix _ _).mp g.rw
  refine ⟨(rw_ix _ _).mpr ⟨by simpa using l2, fun i hi => ?_⟩, ?_, ?_⟩
  · rw [at_set (by omega)]
    have c := b2 i hi
    by_cases q : j = i
    · subst q; rw [if_pos rfl]; omega
    · rw [if_neg q]; exact c
  · rw [sum_set _ _ _ (by omega)]; omega
  · rw [noi_set _ _ _ _ l2 (by omega), show atN G j + 1 - atN G j = 1 by omega, Int.mul_one]
theorem qt_full (g : Qt ks G z) (a : ∀ i, i < ks.length → atN G i = wa ks i) {f : List Int} (hf : Rw ks f) : f.sum ≤ G.sum := by
  obtain ⟨l1, b1⟩ := (rw_ix _ _).mp hf
  obtain ⟨l2, b2⟩ := (rw_ix _ _).mp g.rw
  exact sum_le f G (by omega) fun i hi => by
    have := (b1 i (by omega)).2
    have := a i (by omega)
    omega
end
def wan (ks : List Kd) : List Int := ks.map (·.2)
theorem at_wan {ks : List Kd} {i : Nat} (h : i < ks.length) : atN (wan ks) i = wa ks i := by
  rw [atN_lt (by simpa [wan] using h)]
  simp [wan, wa, h]
theorem wan_rw {ks : List Kd} (h : OkK ks) : Rw ks (wan ks) := (rw_ix _ _).mpr ⟨by simp [wan], fun i hi => by rw [at_wan hi]; exact ⟨(h.wa hi).1, Int.le_refl _⟩⟩
def lon (w : Int) (r : List Int) : List (List Int) := (List.range (w + 1).toNat).map fun (i : Nat) => r ++ [(i : Int)]
def evF : List Kd → List (List Int) → List (List Int)
  | [], X => X
  | k :: ks, X => evF ks (X.flatMap (lon k.2))
def evr (ks : List Kd) : List (List Int) := evF ks [[]]
theorem ev_mem : ∀ (ks : List Kd) (X : List (List Int)) (f : List Int), f ∈ evF ks X ↔ ∃ r ∈ X, ∃ g, f = r ++ g ∧ Rw ks g := by
  intro ks
  induction ks with
  | nil =>
    intro X f
    rw [evF]
    constructor
    · intro h; exact ⟨f, h, [], by simp, trivial⟩
    · rintro ⟨r, hr, g, rfl, hg⟩
      cases g with
      | nil => simpa using hr
      | cons _ _ => exact hg.elim
  | cons k ks ih =>
    intro X f
    rw [evF, ih]
    constructor
    · rintro ⟨r, hr, g, rfl, hg⟩
      obtain ⟨s, hs, hr⟩ := List.mem_flatMap.mp hr
      obtain ⟨i, hi, rfl⟩ := List.mem_map.mp hr
      refine ⟨s, hs, (i : Int) :: g, by simp, ⟨?_, hg⟩⟩
      have := List.mem_range.mp hi
      omega
    · rintro ⟨r, hr, g, rfl, hg⟩
      cases g with
      | nil => exact hg.elim
      | cons x g =>
        obtain ⟨⟨x0, x1⟩, hg⟩ := hg
        refine ⟨r ++ [x], List.mem_flatMap.mpr ⟨r, hr, List.mem_map.mpr ⟨x.toNat, List.mem_range.mpr (by omega), ?_⟩⟩, g, by simp, hg⟩
        rw [show ((x.toNat : Nat) : Int) = x by omega]
theorem evr_mem {ks : List Kd} {f : List Int} : f ∈ evr ks ↔ Rw ks f := by
  unfold evr
  rw [ev_mem]
  simp
theorem ev_last : ∀ (ks : List Kd) (X : List (List Int)) (r : List Int), (∀ k ∈ ks, 0 ≤ k.2) → X.getLast? = some r → (evF ks X).getLast? = some (r ++ wan ks) := by
  intro ks
  induction ks with
  | nil => intro X r _ h; simpa [wan, evF] using h
  | cons k ks ih =>
    intro X r h0 h
    rw [evF]
    have h1 := h0 k (by simp)
    have := ih (X.flatMap (lon k.2)) (r ++ [k.2]) (fun q hq => h0 q (by simp [hq])) (by
      obtain ⟨Y, rfl⟩ := List.getLast?_eq_some_iff.mp h
      rw [List.flatMap_append, List.flatMap_singleton, List.getLast?_append]
      unfold lon
      obtain ⟨n, e⟩ : ∃ n : Nat, k.2 = n := ⟨k.2.toNat, by omega⟩
      rw [e, show ((n : Int) + 1).toNat = n + 1 by omega, List.range_succ, List.map_append]
      simp)
    rw [this]
    simp [wan]
theorem evr_last {ks : List Kd} (h : OkK ks) : (evr ks).getLast? = some (wan ks) := by
  have := ev_last ks [[]] [] (fun k hk => (h.al k hk).2.1) rfl
  unfold evr
  simpa using this
theorem ev_len : ∀ (ks : List Kd) (X : List (List Int)), (∀ k ∈ ks, k.2 ≤ 5) → (evF ks X).length ≤ X.length * 6 ^ ks.length := by
  intro ks
  induction ks with
  | nil => intro X _; simp [evF]
  | cons k ks ih =>
    intro X h
    rw [evF]
    refine Nat.le_trans (ih _ fun q hq => h q (by simp [hq])) ?_
    have h1 := h k (by simp)
    have : (X.flatMap (lon k.2)).length ≤ X.length * 6 := by
      have : ∀ Y : List (List Int), (Y.flatMap (lon k.2)).length = Y.length * (k.2 + 1).toNat := by
        intro Y
        induction Y with
        | nil => simp
        | cons y Y ih => rw [List.flatMap_cons, List.length_append, ih, lon, List.length_map, List.length_range, List.length_cons, Nat.add_mul]; omega
      rw [this]
      exact Nat.mul_le_mul_left _ (by omega)
    rw [List.length_cons, Nat.pow_succ]
    calc _ ≤ X.length * 6 * 6 ^ ks.length := Nat.mul_le_mul_right _ this
      _ = _ := by rw [Nat.mul_assoc, Nat.mul_comm 6]
def gsums (ks : List Kd) (z : Int) : List Int := ((evr ks).filter fun f => decide (noi ks f ≤ z)).map fun f => f.sum
def mores (ks : List Kd) (z t : Int) : List Int := ((evr ks).filter fun f => decide (f.sum = t + 1)).map fun f => noi ks f - z
def nexts (ks : List Kd) (G : List Int) : List Int := ((List.zip ks G).filter fun p => decide (p.2 < p.1.2)).map fun p => p.1.1
section
variable {ks : List Kd} {z : Int}
theorem gsums_ne (h : OkK ks) (h0 : 0 ≤ z) : gsums ks z ≠ [] := by
  have q := quiet_qt h h0
  refine List.ne_nil_of_mem (List.mem_map.mpr ⟨quiet ks z, List.mem_filter.mpr ⟨evr_mem.mpr q.rw, by simpa using q.le⟩, rfl⟩)
theorem gsums_mx (h : OkK ks) (h0 : 0 ≤ z) : mxL (gsums ks z) = (quiet ks z).sum := by
  have q := quiet_qt h h0
  have a : (quiet ks z).sum ≤ mxL (gsums ks z) := le_mx (List.mem_map.mpr ⟨quiet ks z, List.mem_filter.mpr ⟨evr_mem.mpr q.rw, by simpa using q.le⟩, rfl⟩)
  have b : mxL (gsums ks z) ≤ (quiet ks z).sum := mx_le (gsums_ne h h0) fun x hx => by
    obtain ⟨f, hf, rfl⟩ := List.mem_map.mp hx
    rw [List.mem_filter] at hf
    exact qt_best h q (evr_mem.mp hf.1) (by simpa using hf.2)
  omega
theorem zip_atK {ks : List Kd} {G : List Int} (hl : G.length = ks.length) {p : Kd × Int} : p ∈ List.zip ks G ↔ ∃ i, i < ks.length ∧ p = ((lo ks i, wa ks i), atN G i) := by
  constructor
  · intro h
    obtain ⟨i, hi⟩ := List.mem_iff_getElem?.mp h
    rw [List.getElem?_zip_eq_some] at hi
    obtain ⟨h1, e1⟩ := List.getElem?_eq_some_iff.mp hi.1
    obtain ⟨h2, e2⟩ := List.getElem?_eq_some_iff.mp hi.2
    refine ⟨i, h1, ?_⟩
    rw [atN_lt h2, e2]
    have : (lo ks i, wa ks i) = ks[i] := by simp [lo, wa, h1]
    rw [this, e1]
  · rintro ⟨i, hi, rfl⟩
    rw [List.mem_iff_getElem?]
    refine ⟨i, ?_⟩
    have h2 : i < G.length := by omega
    rw [List.getElem?_zip_eq_some, atN_lt h2]
    have : (lo ks i, wa ks i) = ks[i] := by simp [lo, wa, hi]
    rw [this]
    exact ⟨List.getElem?_eq_getElem hi, List.getElem?_eq_getElem h2⟩
theorem full_case (h : OkK ks) (h0 : 0 ≤ z) (a : ∀ i, i < ks.length → atN (quiet ks z) i = wa ks i) : (wan ks).sum - (quiet ks z).sum = 0 ∧ mores ks z (quiet ks z).sum = [] := by
  have q := quiet_qt h h0
  constructor
  · have e : wan ks = quiet ks z := by
      have l := ((rw_ix _ _).mp q.rw).1
      apply List.ext_getElem
      · simp [wan, l]
      · intro i h1 h2
        rw [← atN_lt h1, ← atN_lt h2]
        have hi : i < ks.length := by omega
        rw [at_wan hi, a i hi]
    rw [e]; omega
  · unfold mores
    rw [List.map_eq_nil_iff, List.filter_eq_nil_iff]
    intro f hf
    have := qt_full q a (evr_mem.mp hf)
    simp
    omega
theorem next_case (h : OkK ks) (h0 : 0 ≤ z) {j : Nat} (hj : j < ks.length) (j1 : atN (quiet ks z) j < wa ks j) (j2 : z < noi ks (quiet ks z) + lo ks j)
    (j3 : ∀ i, i < ks.length → (lo ks i < lo ks j → atN (quiet ks z) i = wa ks i) ∧ (lo ks j < lo ks i → atN (quiet ks z) i = 0)) :
    0 < (wan ks).sum - (quiet ks z).sum ∧ (nexts ks (quiet ks z) ≠ [] ∧ mnL (nexts ks (quiet ks z)) = lo ks j) ∧ (mores ks z (quiet ks z).sum ≠ [] ∧ mnL (mores ks z (quiet ks z).sum) = noi ks (quiet ks z) + lo ks j - z) ∧
    (quiet ks (noi ks (quiet ks z) + lo ks j)).sum = (quiet ks z).sum + 1 ∧ (quiet ks (noi ks (quiet ks z) + lo ks j - 1)).sum = (quiet ks z).sum := by
  have q := quiet_qt h h0
  generalize quiet ks z = G at *
  obtain ⟨l, b⟩ := (rw_ix _ _).mp q.rw
  have p0 := (h.lo hj).1
  obtain ⟨m1, m2, m3⟩ := rw_more q hj j1
  have n1 : lo ks j ∈ nexts ks G := List.mem_map.mpr ⟨((lo ks j, wa ks j), atN G j), List.mem_filter.mpr ⟨(zip_atK l).mpr ⟨j, hj, rfl⟩, by simpa using j1⟩, rfl⟩
  have n0 := List.ne_nil_of_mem n1
  have e1 : noi ks G + lo ks j - z ∈ mores ks z G.sum := List.mem_map.mpr ⟨_, List.mem_filter.mpr ⟨evr_mem.mpr m1, by simpa using m2⟩, by rw [m3]⟩
  have e0 := List.ne_nil_of_mem e1
  refine ⟨?_, ⟨n0, ?_⟩, ⟨e0, ?_⟩, ?_, ?_⟩
  · have := sum_lt G (wan ks) (by simp [wan, l]) (fun i hi => by
      have hi : i < ks.length := by simpa [wan] using hi
      rw [at_wan hi]; exact (b i hi).2) ⟨j, by simpa [wan] using hj, by rw [at_wan hj]; exact j1⟩
    omega
  · have u := mn_le n1
    have mm := mn_mem n0
    obtain ⟨p, hp, e⟩ := List.mem_map.mp mm
    rw [List.mem_filter] at hp
    obtain ⟨i, hi, rfl⟩ := (zip_atK l).mp hp.1
    have w := hp.2
    simp only [decide_eq_true_eq] at w e
    have := (j3 i hi).1
    by_cases c : lo ks i < lo ks j
    · have := this c; omega
    · omega
  · have u := mn_le e1
    have mm := mn_mem e0
    obtain ⟨f, hf, e⟩ := List.mem_map.mp mm
    rw [List.mem_filter] at hf
    have s : f.sum = G.sum + 1 := by simpa using hf.2
    have t := qt_thr h q hj j3 (evr_mem.mp hf.1)
    rw [s, show G.sum + 1 - G.sum = 1 by omega, Int.mul_one] at t
    omega
  · have q' := quiet_qt (ks := ks) (z := noi ks G + lo ks j) h (by omega)
    generalize quiet ks (noi ks G + lo ks j) = G' at *
    have u := qt_best h q' m1 (by omega)
    have t := qt_thr h q hj j3 q'.rw
    have := q'.le
    by_cases c : G'.sum ≤ G.sum + 1
    · omega
    · exfalso
      have : lo ks j * 2 ≤ lo ks j * (G'.sum - G.sum) := Int.mul_le_mul_of_nonneg_left (by omega) (by omega)
      omega
  · have q' := quiet_qt (ks := ks) (z := noi ks G + lo ks j - 1) h (by omega)
    generalize quiet ks (noi ks G + lo ks j - 1) = G' at *
    have u := qt_best h q' q.rw (by have := q.le; omega)
    have t := qt_thr h q hj j3 q'.rw
    have := q'.le
    by_cases c : G'.sum ≤ G.sum
    · omega
    · exfalso
      have : lo ks j * 1 ≤ lo ks j * (G'.sum - G.sum) := Int.mul_le_mul_of_nonneg_left (by omega) (by omega)
      omega
end
def cap (ks : List Kd) (m : Int) : List Int := ks.map fun k => if k.2 < m then k.2 else m
theorem cap_le : ∀ (ks : List Kd) (m n : Int), (∀ k ∈ ks, 0 ≤ k.1) → m ≤ n → noi ks (cap ks m) ≤ noi ks (cap ks n) := by
  intro ks
  induction ks with
  | nil => intro m n _ _; exact Int.le_refl _
  | cons k ks ih =>
    intro m n h hmn
    have := ih m n (fun q hq => h q (by simp [hq])) hmn
    show k.1 * (if k.2 < m then k.2 else m) + noi ks (cap ks m) ≤ k.1 * (if k.2 < n then k.2 else n) + noi ks (cap ks n)
    have : k.1 * (if k.2 < m then k.2 else m) ≤ k.1 * (if k.2 < n then k.2 else n) := Int.mul_le_mul_of_nonneg_left (by split <;> split <;> omega) (h k (by simp))
    omega
theorem cap_0 : ∀ (ks : List Kd), (∀ k ∈ ks, 0 ≤ k.2) → noi ks (cap ks 0) = 0 := by
  intro ks
  induction ks with
  | nil => intro _; rfl
  | cons k ks ih =>
    intro h
    have := ih fun q hq => h q (by simp [hq])
    have h1 := h k (by simp)
    show k.1 * (if k.2 < 0 then k.2 else 0) + noi ks (cap ks 0) = 0
    rw [this, if_neg (by omega), Int.mul_zero]
    rfl
def shs (ks : List Kd) (z : Int) (n : Nat) : List Int := ((List.range n).map fun (i : Nat) => (i : Int)).filter fun m => decide (noi ks (cap ks m) ≤ z)
theorem shs_last {ks : List Kd} {z : Int} (h : OkK ks) (h0 : 0 ≤ z) {n : Nat} (hn : 0 < n) : ∃ m : Nat, (shs ks z n).getLast? = some (m : Int) ∧ m < n ∧ noi ks (cap ks m) ≤ z ∧ ∀ i : Nat, i < n → noi ks (cap ks i) ≤ z → i ≤ m := by
  have p : ((shs ks z n)).Pairwise (· < ·) := by
    unfold shs
    refine List.Pairwise.filter _ ?_
    rw [List.pairwise_map]
    exact List.pairwise_lt_range.imp fun h => by omega
  have mem : ∀ i : Nat, (i : Int) ∈ shs ks z n ↔ i < n ∧ noi ks (cap ks i) ≤ z := by
    intro i
    unfold shs
    rw [List.mem_filter, List.mem_map]
    constructor
    · rintro ⟨⟨j, hj, e⟩, q⟩
      have : j = i := by omega
      subst this
      exact ⟨List.mem_range.mp hj, by simpa using q⟩
    · intro ⟨a, b⟩
      exact ⟨⟨i, List.mem_range.mpr a, rfl⟩, by simpa using b⟩
  have z0 : ((0 : Nat) : Int) ∈ shs ks z n := (mem 0).mpr ⟨hn, by rw [show ((0 : Nat) : Int) = 0 from rfl, cap_0 ks (fun k hk => (h.al k hk).2.1)]; exact h0⟩
  cases e : (shs ks z n).getLast? with
  | none =>
    rw [List.getLast?_eq_none_iff] at e
    rw [e] at z0
    cases z0
  | some v =>
    obtain ⟨Y, eY⟩ := List.getLast?_eq_some_iff.mp e
    have hv : v ∈ shs ks z n := by rw [eY]; simp
    have hv2 : ∃ i : Nat, v = i := by
      unfold shs at hv
      rw [List.mem_filter, List.mem_map] at hv
      obtain ⟨⟨i, _, q⟩, _⟩ := hv
      exact ⟨i, q.symm⟩
    obtain ⟨m, rfl⟩ := hv2
    obtain ⟨a, b⟩ := (mem m).mp hv
    refine ⟨m, rfl, a, b, fun i hi c => ?_⟩
    have hi' := (mem i).mpr ⟨hi, c⟩
    rw [eY] at hi' p
    rw [List.pairwise_append] at p
    rcases List.mem_append.mp hi' with q | q
    · have := p.2.2 _ q m (by simp)
      omega
    · simp at q
      omega
theorem shares_min {ks : List Kd} {z : Int} (h : OkK ks) (h0 : 0 ≤ z) {w : Nat} (hw : w ≤ 40) : ∃ m v : Nat, (shs ks z 41).getLast? = some (m : Int) ∧ (shs ks z (w + 1)).getLast? = some (v : Int) ∧ (v : Int) = if (w : Int) < m then (w : Int) else m := by
  obtain ⟨m, e1, a1, b1, c1⟩ := shs_last h h0 (show 0 < 41 by omega)
  obtain ⟨v, e2, a2, b2, c2⟩ := shs_last h h0 (show 0 < w + 1 by omega)
  refine ⟨m, v, e1, e2, ?_⟩
  have lk : ∀ k ∈ ks, 0 ≤ k.1 := fun k hk => by have := (h.al k hk).1.1; omega
  have d1 := c1 v (by omega) b2
  by_cases q : w < m
  · rw [if_pos (by omega)]
    have := c2 w (by omega) (Int.le_trans (cap_le ks w m lk (by omega)) b1)
    omega
  · rw [if_neg (by omega)]
    have := c2 m (by omega) b1
    omega
def ltL : List Int → List Int → Bool
  | [], [] => false
  | [], _ :: _ => true
  | _ :: _, [] => false
  | x :: xs, y :: ys => decide (x < y) || (decide (x = y) && ltL xs ys)
theorem ltL_ix : ∀ (f g : List Int), f.length = g.length → ltL f g = true → ∃ i, i < f.length ∧ (∀ k, k < i → atN f k = atN g k) ∧ atN f i < atN g i := by
  intro f
  induction f with
  | nil =>
    intro g h l
    cases g with
    | nil => simp [ltL] at l
    | cons _ _ => simp at h
  | cons x f ih =>
    intro g h l
    cases g with
    | nil => simp at h
    | cons y g =>
      simp only [ltL, Bool.or_eq_true, Bool.and_eq_true, decide_eq_true_eq] at l
      rcases l with l | ⟨e, l⟩
      · exact ⟨0, by simp, by omega, by simpa [atN] using l⟩
      · obtain ⟨i, h1, h2, h3⟩ := ih g (by simpa using h) l
        refine ⟨i + 1, by simpa using h1, fun k hk => ?_, by simpa [atN] using h3⟩
        cases k with
        | zero => simpa [atN] using e
        | succ k => simpa [atN] using h2 k (by omega)
theorem ltL_trans : ∀ (a b c : List Int), ltL a b = true → ltL b c = true → ltL a c = true := by
  intro a
  induction a with
  | nil =>
    intro b c h1 h2
    cases c with
    | nil => cases b <;> simp [ltL] at h2
    | cons _ _ => rfl
  | cons x a ih =>
    intro b c h1 h2
    cases b with
    | nil => simp [ltL] at h1
    | cons y b =>
      cases c with
      | nil => simp [ltL] at h2
      | cons z c =>
        simp only [ltL, Bool.or_eq_true, Bool.and_eq_true, decide_eq_true_eq] at *
        rcases h1 with h1 | ⟨e1, h1⟩
        · rcases h2 with h2 | ⟨e2, h2⟩
          · left; omega
          · left; omega
        · rcases h2 with h2 | ⟨e2, h2⟩
          · left; omega
          · right; exact ⟨by omega, ih b c h1 h2⟩
theorem ltL_irr : ∀ (a : List Int), ltL a a = false := by
  intro a
  induction a with
  | nil => rfl
  | cons x a ih => simp [ltL, ih]
theorem ltL_tri : ∀ (a b : List Int), a.length = b.length → ltL a b = false → ltL b a = false → a = b := by
  intro a
  induction a with
  | nil => intro b h _ _; cases b with
    | nil => rfl
    | cons _ _ => simp at h
  | cons x a ih =>
    intro b h h1 h2
    cases b with
    | nil => simp at h
    | cons y b =>
      simp only [ltL, Bool.or_eq_false_iff, Bool.and_eq_false_iff, decide_eq_false_iff_not] at h1 h2
      have e : x = y := by omega
      subst e
      have := ih b (by simpa using h) (by rcases h1.2 with q | q; exact absurd rfl q; exact q) (by rcases h2.2 with q | q; exact absurd rfl q; exact q)
      rw [this]
def rwD (r : List Int) : D := .tuple (iD r)
theorem dlt_cons_int (a b : Int) (xs ys : List D) : PyProof.Rows.lexLt PyProof.Rows.itemOrd (PySem.W.keyToksAll (.int a :: xs)) (PySem.W.keyToksAll (.int b :: ys)) = (decide (a < b) || (decide (a = b) && PyProof.Rows.lexLt PyProof.Rows.itemOrd (PySem.W.keyToksAll xs) (PySem.W.keyToksAll ys))) := by
  rw [PySem.W.dataLt_cons (by simp [PySem.W.alike])]
  have e : PyData.eqv (.int a) (.int b) = decide (a = b) := by
    rw [Bool.eq_iff_iff]
    simp [PyData.eqv]
  rw [e, PySem.W.dataLt_int]
  by_cases q : a = b
  · subst q; simp
  · simp [q]
theorem dlt_nil : PyProof.Rows.lexLt PyProof.Rows.itemOrd (PySem.W.keyToksAll []) (PySem.W.keyToksAll []) = false := by decide +kernel
theorem dlt_rows : ∀ (f g : List Int), f.length = g.length → PyProof.Rows.lexLt PyProof.Rows.itemOrd (PySem.W.keyToksAll (iD f)) (PySem.W.keyToksAll (iD g)) = ltL f g := by
  intro f
  induction f with
  | nil =>
    intro g h
    cases g with
    | nil => exact dlt_nil
    | cons _ _ => simp at h
  | cons x f ih =>
    intro g h
    cases g with
    | nil => simp at h
    | cons y g =>
      rw [show iD (x :: f) = .int x :: iD f from rfl, show iD (y :: g) = .int y :: iD g from rfl, dlt_cons_int, ih g (by simpa using h)]
      rfl
theorem dlt_r {f g : List Int} (h : f.length = g.length) : PySem.W.dataLt (rwD f) (rwD g) = ltL f g := by
  unfold rwD
  rw [PySem.W.dataLt_tuple, dlt_rows f g h]
theorem max_rows {n : Nat} : ∀ (L : List (List Int)) (x : List Int), x.length = n → (∀ f ∈ L, f.length = n) → ∃ m, PySem.W.maxD (rwD x) (L.map rwD) = rwD m ∧ (m = x ∨ m ∈ L) ∧ ltL m x = false ∧ ∀ y ∈ L, ltL m y = false := by
  intro L
  induction L with
  | nil => exact fun x _ _ => ⟨x, rfl, .inl rfl, ltL_irr x, by simp⟩
  | cons y L ih =>
    intro x hx hL
    have hy := hL y (by simp)
    have e : PySem.W.maxD (rwD x) ((y :: L).map rwD) = PySem.W.maxD (if ltL x y = true then rwD y else rwD x) (L.map rwD) := by
      show List.foldl _ _ _ = _
      rw [List.map_cons, List.foldl_cons, dlt_r (by omega)]
      rfl
    by_cases q : ltL x y = true
    · rw [if_pos q] at e
      obtain ⟨m, h1, h2, h3, h4⟩ := ih y hy (fun f hf => hL f (by simp [hf]))
      refine ⟨m, by rw [e, h1], ?_, ?_, fun z hz => ?_⟩
      · rcases h2 with h2 | h2
        · exact .inr (by rw [h2]; simp)
        · exact .inr (List.mem_cons_of_mem _ h2)
      · cases t : ltL m x with
        | false => rfl
        | true => rw [ltL_trans m x y t q] at h3; cases h3
      · rcases List.mem_cons.mp hz with rfl | hz
        · exact h3
        · exact h4 z hz
    · have q' : ltL x y = false := by simpa using q
      rw [if_neg q] at e
      obtain ⟨m, h1, h2, h3, h4⟩ := ih x hx (fun f hf => hL f (by simp [hf]))
      refine ⟨m, by rw [e, h1], ?_, h3, fun z hz => ?_⟩
      · rcases h2 with h2 | h2
        · exact .inl h2
        · exact .inr (List.mem_cons_of_mem _ h2)
      · rcases List.mem_cons.mp hz with rfl | hz
        · cases t : ltL m z with
          | false => rfl
          | true =>
            cases u : ltL z x with
            | true => rw [ltL_trans m z x t u] at h3; cases h3
            | false =>
              have := ltL_tri z x (by omega) u q'
              rw [this] at t
              rw [t] at h3; cases h3
        · exact h4 z hz
theorem alike_rows : ∀ (f g : List Int), PySem.W.alikeAll (iD f) (iD g) = true := by
  intro f
  induction f with
  | nil => intro g; cases g <;> simp [iD, PySem.W.alikeAll]
  | cons x f ih =>
    intro g
    cases g with
    | nil => simp [iD, PySem.W.alikeAll]
    | cons y g =>
      have := ih g
      unfold iD at *
      simp [PySem.W.alikeAll, PySem.W.alike, this]
theorem alikeOk_rows (L : List (List Int)) : alikeOk (L.map rwD) = true := by
  simp [alikeOk, PySem.W.alike, isNone, rwD, alike_rows]
theorem seqok_rows (L : List (List Int)) : seqOk (L.map rwD) = true := by
  have : PyData.plainAll (L.map rwD) = true ∧ PyData.depthAll (L.map rwD) ≤ 1 := by
    induction L with
    | nil => exact ⟨rfl, by decide⟩
    | cons n ns ih =>
      have p := plain_ints n
      refine ⟨by simp [PyData.plainAll, PyData.plain, rwD, iD, p.1, ih.1], ?_⟩
      have := ih.2
      simp [PyData.depthAll, PyData.depth, rwD, iD, p.2]
      omega
  unfold seqOk
  rw [this.1]
  have := this.2
  simp
  omega
theorem rows_max {n : Nat} {L : List (List Int)} {m : List Int} {S : Store} (hL : ∀ f ∈ L, f.length = n) (hm : m ∈ L) (h : ∀ y ∈ L, ltL m y = false) : fMax1 [.d (.list (L.map rwD))] S = .ok (.d (rwD m)) S := by
  cases L with
  | nil => cases hm
  | cons x L =>
    obtain ⟨k, h1, h2, h3, h4⟩ := max_rows (n := n) L x (hL x (by simp)) (fun f hf => hL f (by simp [hf]))
    have km : k ∈ x :: L := by
      rcases h2 with rfl | h2
      · simp
      · simp [h2]
    have eq : k = m := by
      refine ltL_tri k m (by rw [hL k km, hL m hm]) ?_ (h k km)
      rcases List.mem_cons.mp hm with rfl | hm
      · exact h3
      · exact h4 m hm
    subst eq
    have a := alikeOk_rows (x :: L)
    have ok := seqok_rows (x :: L)
    simp only [List.map_cons] at a ok
    simp [fMax1, fSeq, view, seqOf, ok, a, h1]
theorem quiet_lex {ks : List Kd} {z : Int} (h : OkK ks) (h0 : 0 ≤ z) {f : List Int} (hf : Rw ks f) (es : f.sum = (quiet ks z).sum) (en : noi ks f = noi ks (quiet ks z)) : ltL (quiet ks z) f = false := by
  have g := quiet_gr h h0
  have q := quiet_qt h h0
  have om : ∀ i, i < ks.length → (lo ks i, i) ∈ ord ks := fun i hi => ord_mem.mpr ⟨hi, rfl⟩
  generalize quiet ks z = G at *
  obtain ⟨l1, b1⟩ := (rw_ix _ _).mp hf
  obtain ⟨l2, b2⟩ := (rw_ix _ _).mp q.rw
  cases t : ltL G f with
  | false => rfl
  | true =>
    exfalso
    obtain ⟨i, hi, pre, lt⟩ := ltL_ix G f (by omega) t
    have hi : i < ks.length := by omega
    have lt2 : G.sum < f.sum := by
      refine sum_lt G f (by omega) (fun k hk => ?_) ⟨i, by omega, lt⟩
      have hk : k < ks.length := by omega
      rcases g.alt with a | ⟨p, hp, p1, p2, p3⟩
      · have a1 := a _ (om i hi)
        have := (b1 i hi).2
        simp only at a1
        omega
      · obtain ⟨pj, pe⟩ := ord_mem.mp hp
        -- those of another noise are the same
        have oth : ∀ k, k < ks.length → lo ks k ≠ p.1 → atN f k = atN G k := by
          intro k hk ne
          have r := rw_ix ks (f.set k (atN G k))
          have fr : Rw ks (f.set k (atN G k)) := r.mpr ⟨by simpa using l1, fun i hi => by
            rw [at_set (by omega)]
            by_cases e : k = i
            · subst e; rw [if_pos rfl]; exact b2 k hk
            · rw [if_neg e]; exact b1 i hi⟩
          have th := qt_thr h q pj (fun i hi => ⟨fun w => (p3 _ (om i hi)).1 (.inl (by rw [pe]; exact w)), fun w => (p3 _ (om i hi)).2 (.inl (by rw [pe]; exact w))⟩) fr
          rw [sum_set _ _ _ (by omega), noi_set _ _ _ _ l1 (by omega), ← pe] at th
          have e1 : f.sum + (atN G k - atN f k) - G.sum = atN G k - atN f k := by omega
          rw [e1] at th
          have e2 : p.1 * (atN G k - atN f k) ≤ lo ks k * (atN G k - atN f k) := by omega
          have c1 := b1 k hk
          have c2 := b2 k hk
          have c3 := p3 _ (om k hk)
          rcases Int.lt_trichotomy (lo ks k) p.1 with w | w | w
          · have a1 := c3.1 (.inl w)
            simp only at a1
            apply Decidable.byContradiction
            intro no
            have pos : 0 < atN G k - atN f k := by omega
            have := Int.mul_lt_mul_of_pos_right w pos
            omega
          · exact absurd w ne
          · have a1 := c3.2 (.inl w)
            simp only at a1
            apply Decidable.byContradiction
            intro no
            have pos : 0 < atN f k - atN G k := by omega
            have m := Int.mul_lt_mul_of_pos_right w pos
            have e3 : p.1 * (atN f k - atN G k) = 0 - p.1 * (atN G k - atN f k) := by rw [show atN f k - atN G k = -(atN G k - atN f k) by omega, Int.mul_neg]; omega
            have e4 : lo ks k * (atN f k - atN G k) = 0 - lo ks k * (atN G k - atN f k) := by rw [show atN f k - atN G k = -(atN G k - atN f k) by omega, Int.mul_neg]; omega
            omega
        by_cases k1 : k < i
        · have := pre k k1; omega
        · by_cases k2 : k = i
          · subst k2; omega
          · by_cases k3 : lo ks k = p.1
            · have li : lo ks i = p.1 := by
                apply Decidable.byContradiction
                intro ne
                have := oth i hi ne
                omega
              have nf : ¬ bef (lo ks i, i) p := fun w => by
                have := (p3 _ (om i hi)).1 w
                have := (b1 i hi).2
                simp only at *
                omega
              have bk : bef p (lo ks k, k) := by
                unfold bef at *
                simp only at *
                omega
              have := (p3 _ (om k hk)).2 bk
              have := (b1 k hk).1
              simp only at *
              omega
            · have := oth k hk k3; omega
    omega
def stepN (k : Kd) (X : List Int) : List Int := X.flatMap fun n => (List.range (k.2 + 1).toNat).map fun (i : Nat) => n + k.1 * (i : Int)
def nsF : List Kd → List Int → List Int
  | [], X => X
  | k :: ks, X => nsF ks (stepN k X)
theorem noi_app : ∀ (ks : List Kd) (r : List Int) (k : Kd) (m : Int), r.length = ks.length → noi (ks ++ [k]) (r ++ [m]) = noi ks r + k.1 * m := by
  intro ks
  induction ks with
  | nil =>
    intro r k m h
    cases r with
    | nil => simp [noi]
    | cons _ _ => simp at h
  | cons q ks ih =>
    intro r k m h
    cases r with
    | nil => simp at h
    | cons x r =>
      have := ih r k m (by simpa using h)
      simp only [List.cons_append, noi, this]
      omega
theorem ev_ns : ∀ (ks ks0 : List Kd) (X : List (List Int)), (∀ r ∈ X, r.length = ks0.length) → (evF ks X).map (noi (ks0 ++ ks)) = nsF ks (X.map (noi ks0)) := by
  intro ks
  induction ks with
  | nil => intro ks0 X _; simp [evF, nsF]
  | cons k ks ih =>
    intro ks0 X h
    rw [evF, nsF]
    have e := ih (ks0 ++ [k]) (X.flatMap (lon k.2)) (fun r hr => by
      obtain ⟨s, hs, hr⟩ := List.mem_flatMap.mp hr
      obtain ⟨i, hi, rfl⟩ := List.mem_map.mp hr
      simp [h s hs])
    rw [List.append_assoc, List.singleton_append] at e
    rw [e]
    congr 1
    clear e ih
    induction X with
    | nil => rfl
    | cons r X ih =>
      rw [List.flatMap_cons, List.map_append, ih (fun s hs => h s (by simp [hs]))]
      unfold stepN
      rw [List.map_cons, List.flatMap_cons]
      congr 1
      unfold lon
      rw [List.map_map]
      refine List.map_congr_left fun i hi => ?_
      exact noi_app ks0 r k i (h r (by simp))
theorem evr_ns (ks : List Kd) : (evr ks).map (noi ks) = nsF ks [0] := by
  have := ev_ns ks [] [[]] (by simp)
  exact this
theorem step_nn {k : Kd} {X : List Int} (hk : 0 ≤ k.1) (h : ∀ n ∈ X, 0 ≤ n) : ∀ n ∈ stepN k X, 0 ≤ n := by
  intro n hn
  obtain ⟨x, hx, hn⟩ := List.mem_flatMap.mp hn
  obtain ⟨i, hi, rfl⟩ := List.mem_map.mp hn
  have := h x hx
  have : 0 ≤ k.1 * (i : Int) := Int.mul_nonneg hk (by omega)
  omega
def sumR (f : Nat → Nat) : Nat → Nat
  | 0 => 0
  | n + 1 => sumR f n + f n
theorem sumR_add {f g h : Nat → Nat} (e : ∀ i, h i = f i + g i) : ∀ n, sumR h n = sumR f n + sumR g n
  | 0 => rfl
  | n + 1 => by rw [sumR, sumR, sumR, sumR_add e n, e n]; omega
theorem sumR_zero {f : Nat → Nat} (e : ∀ i, f i = 0) : ∀ n, sumR f n = 0
  | 0 => rfl
  | n + 1 => by rw [sumR, sumR_zero e n, e n]
theorem cnt_map (x l t : Int) : ∀ (n : Nat), ((List.range n).map fun (i : Nat) => x + l * (i : Int)).count t = sumR (fun i => [x].count (t - l * (i : Int))) n
  | 0 => rfl
  | n + 1 => by
    rw [List.range_succ, List.map_append, List.count_append, cnt_map x l t n, sumR]
    congr 1
    simp only [List.map_cons, List.map_nil, List.count_singleton]
    have : (x + l * (n : Int) == t) = (x == t - l * (n : Int)) := by
      rw [Bool.eq_iff_iff]
      simp only [beq_iff_eq]
      omega
    rw [this]
theorem cnt_step (k : Kd) (t : Int) : ∀ (X : List Int), (stepN k X).count t = sumR (fun i => X.count (t - k.1 * (i : Int))) (k.2 + 1).toNat := by
  intro X
  induction X with
  | nil => exact (sumR_zero (fun i => rfl) _).symm
  | cons x X ih =>
    unfold stepN at *
    rw [List.flatMap_cons, List.count_append, ih, cnt_map]
    exact (sumR_add (f := fun i => [x].count (t - k.1 * (i : Int))) (g := fun i => X.count (t - k.1 * (i : Int))) (h := fun i => (x :: X).count (t - k.1 * (i : Int))) (fun i => by
      show (x :: X).count _ = [x].count _ + X.count _
      rw [show x :: X = [x] ++ X from rfl, List.count_append]) _).symm
def tabN (z : Nat) (X : List Int) : List Int := (List.range (z + 1)).map fun (t : Nat) => ((X.count (t : Int) : Nat) : Int)
theorem tab_len {z : Nat} {X : List Int} : (tabN z X).length = z + 1 := by simp [tabN]
theorem tab_at {z t : Nat} {X : List Int} (h : t < z + 1) : atN (tabN z X) t = ((X.count (t : Int) : Nat) : Int) := by
  rw [atN_lt (by rw [tab_len]; exact h)]
  simp [tabN]
theorem cnt_neg {X : List Int} (h : ∀ n ∈ X, 0 ≤ n) {t : Int} (ht : t < 0) : X.count t = 0 := by
  rw [List.count_eq_zero]
  intro m
  have := h t m
  omega
def passN (z : Nat) (X : List Int) (l : Int) (m : Nat) (A : List Int) : List Int := (List.range (z + 1)).map fun (t : Nat) => atN A t + ((X.count ((t : Int) - l * (m : Int)) : Nat) : Int)
theorem tab_0 {z : Nat} : tabN z [0] = 1 :: List.replicate z 0 := by
  unfold tabN
  rw [List.range_succ_eq_map, List.map_cons, List.map_map]
  congr 1
  rw [List.eq_replicate_iff]
  refine ⟨by simp, fun b hb => ?_⟩
  obtain ⟨t, _, rfl⟩ := List.mem_map.mp hb
  show ((List.count ((t + 1 : Nat) : Int) [0] : Nat) : Int) = 0
  rw [List.count_singleton]
  have : ((0 : Int) == ((t + 1 : Nat) : Int)) = false := by
    rw [beq_eq_false_iff_ne]
    omega
  rw [this]
  rfl
def partN (z : Nat) (X : List Int) (l : Int) (n : Nat) : List Int := (List.range (z + 1)).map fun (t : Nat) => ((sumR (fun i => X.count ((t : Int) - l * (i : Int))) n : Nat) : Int)
theorem part_0 {z : Nat} {X : List Int} {l : Int} : partN z X l 0 = List.replicate (z + 1) 0 := by
  unfold partN
  simp [sumR, List.map_const']
theorem part_all {z : Nat} {X : List Int} {k : Kd} : partN z X k.1 (k.2 + 1).toNat = tabN z (stepN k X) := by
  unfold partN tabN
  refine List.map_congr_left fun t _ => ?_
  rw [cnt_step]
theorem part_len {z n : Nat} {X : List Int} {l : Int} : (partN z X l n).length = z + 1 := by simp [partN]
theorem part_at {z t n : Nat} {X : List Int} {l : Int} (h : t < z + 1) : atN (partN z X l n) t = ((sumR (fun i => X.count ((t : Int) - l * (i : Int))) n : Nat) : Int) := by
  rw [atN_lt (by rw [part_len]; exact h)]
  simp [partN]
theorem tab_sum {X : List Int} : ∀ (z : Nat), (∀ n ∈ X, 0 ≤ n) → (tabN z X).sum = ((X.filter fun n => decide (n ≤ (z : Int))).length : Int) := by
  intro z h
  unfold tabN
  induction z with
  | zero =>
    have : X.count 0 = (X.filter fun n => decide (n ≤ 0)).length := by
      rw [List.count_eq_length_filter]
      congr 1
      refine List.filter_congr fun n hn => ?_
      have := h n hn
      rw [Bool.eq_iff_iff]
      simp
      omega
    simp [this]
  | succ z ih =>
    rw [List.range_succ, List.map_append, List.sum_append, ih]
    simp only [List.map_cons, List.map_nil, List.sum_cons, List.sum_nil, Int.add_zero]
    have : (X.filter fun n => decide (n ≤ ((z + 1 : Nat) : Int))).length = (X.filter fun n => decide (n ≤ (z : Int))).length + X.count ((z + 1 : Nat) : Int) := by
      clear ih h
      induction X with
      | nil => rfl
      | cons x X ih =>
        rw [List.filter_cons, List.filter_cons, List.count_cons]
        by_cases a : x ≤ (z : Int)
        · have b : x ≤ ((z + 1 : Nat) : Int) := by omega
          have c : ¬ x = ((z + 1 : Nat) : Int) := by omega
          simp only [a, b, decide_true, if_true, List.length_cons]
          rw [ih]
          have : (x == ((z + 1 : Nat) : Int)) = false := by simpa using c
          rw [this]
          simp
          omega
        · by_cases c : x = ((z + 1 : Nat) : Int)
          · have b : x ≤ ((z + 1 : Nat) : Int) := by omega
            simp only [a, b, decide_true, decide_false, if_true, Bool.false_eq_true, if_false, List.length_cons]
            rw [ih]
            have : (x == ((z + 1 : Nat) : Int)) = true := by simpa using c
            rw [this]
            simp
            omega
          · have b : ¬ x ≤ ((z + 1 : Nat) : Int) := by omega
            simp only [a, b, decide_false, Bool.false_eq_true, if_false]
            rw [ih]
            have : (x == ((z + 1 : Nat) : Int)) = false := by simpa using c
            rw [this]
            simp
    rw [this]
    omega
def hitsN (z : Nat) (X : List Int) : List Int := (((List.range (z + 1)).filter fun (t : Nat) => decide (0 < X.count ((t : Nat) : Int))).map fun (t : Nat) => (t : Int))
theorem hits_mem {z : Nat} {X : List Int} (h : ∀ n ∈ X, 0 ≤ n) {t : Int} : t ∈ hitsN z X ↔ t ∈ X.filter fun n => decide (n ≤ (z : Int)) := by
  unfold hitsN
  rw [List.mem_map, List.mem_filter]
  constructor
  · rintro ⟨a, ha, rfl⟩
    rw [List.mem_filter, List.mem_range] at ha
    refine ⟨?_, by simp only [decide_eq_true_eq]; omega⟩
    have := ha.2
    simp only [decide_eq_true_eq] at this
    exact List.count_pos_iff.mp this
  · rintro ⟨h1, h2⟩
    simp only [decide_eq_true_eq] at h2
    have := h t h1
    refine ⟨t.toNat, ?_, by omega⟩
    rw [List.mem_filter, List.mem_range]
    refine ⟨by omega, ?_⟩
    simp only [decide_eq_true_eq]
    rw [show ((t.toNat : Nat) : Int) = t by omega]
    exact List.count_pos_iff.mpr h1
theorem mx_same {F G : List Int} (h : ∀ t, t ∈ F ↔ t ∈ G) (hF : F ≠ []) : mxL F = mxL G := by
  have a := mx_mem hF
  have hG : G ≠ [] := by
    intro e
    have := (h _).mp a
    rw [e] at this
    cases this
  have b := mx_mem hG
  have c := le_mx ((h _).mp a)
  have d := le_mx ((h _).mpr b)
  omega
set_option exponentiation.threshold 5000
theorem draw_ok : DrawR g__law_draw := by
  rintro size _ R h0 h1 ⟨cs, p, z, s, n, ok, rfl⟩
  have hs1 : size < 2 ^ 4000 := Int.lt_trans h1 (by decide)
  have hs0 : size ≠ 0 := by omega
  have m1 : mulOk s 69621 = true := mulOk_r (by decide)
  generalize e : g__law_draw [.loc 0, .d (.int size)] (hand cs p z s n :: R) = RR
  by_cases hz : z = 0
  · by_cases hp : p < cs.length
    · -- a cell is taken
      obtain ⟨k, rfl⟩ : ∃ k : Nat, p = k := ⟨p.toNat, by have := ok.p; omega⟩
      have hk : k < cs.length := by omega
      have ec : atI (cs.map PyData.int) k = some (.int cs[k]) := by rw [atI_nat]; simp [hk]
      have c0 : 0 ≤ cs[k] := ok.cs _ (List.getElem_mem hk)
      generalize cs[k] = c at ec c0
      have m2 : mulOk c 48271 = true := mulOk_r (by decide)
      subst hz
      by_cases hc : 1000000000000000000 ≤ c
      · have cp : 0 < c := by omega
        simp [g__law_draw, ap_fnOf, b__law_draw, hand, oIx, view, oPost, ec, hp, ixN, oMul_int, m1, m2, oMod_int, oDiv_int h0 hs1, oDiv_int, oPow, hc, cp, h0, hs1, List.replicate] at e
        subst e
        refine ⟨_, _, Int.emod_nonneg _ hs0, Int.emod_lt_of_pos _ h0, ⟨cs, _, _, _, _, ?_, rfl⟩, rfl⟩; exact ⟨ok.cs, by have := ok.p; omega, Int.ediv_nonneg c0 (by omega), Int.emod_nonneg _ (by decide), ok.n⟩
      · simp [g__law_draw, ap_fnOf, b__law_draw, hand, oIx, view, oPost, ec, hp, ixN, oMul_int, m1, m2, oMod_int, oDiv_int h0 hs1, oDiv_int, oPow, hc, h0, hs1, List.replicate, mod_l, num_l, num_r] at e
        subst e
        refine ⟨_, _, Int.emod_nonneg _ hs0, Int.emod_lt_of_pos _ h0, ⟨cs, _, _, _, _, ?_, rfl⟩, rfl⟩; exact ⟨ok.cs, by have := ok.p; omega, by decide, Int.emod_nonneg _ (by decide), by have := ok.n; omega⟩
    · subst hz
      simp [g__law_draw, ap_fnOf, b__law_draw, hand, oIx, view, oPost, hp, ixN, oMul_int, m1, oMod_int, oDiv_int h0 hs1, oDiv_int, oPow, h0, hs1, List.replicate, mod_l, num_l, num_r] at e
      subst e
      refine ⟨_, _, Int.emod_nonneg _ hs0, Int.emod_lt_of_pos _ h0, ⟨cs, _, _, _, _, ?_, rfl⟩, rfl⟩; exact ⟨ok.cs, ok.p, by decide, ok.s, by have := ok.n; omega⟩
  · have zp : 0 < z := by have := ok.z; omega
    simp [g__law_draw, ap_fnOf, b__law_draw, hand, oIx, view, oPost, hz, zp, ixN, oMod_int, oDiv_int h0 hs1, oDiv_int, h0, hs1, List.replicate] at e
    subst e
    refine ⟨_, _, Int.emod_nonneg _ hs0, Int.emod_lt_of_pos _ h0, ⟨cs, _, _, _, _, ?_, rfl⟩, rfl⟩; exact ⟨ok.cs, ok.p, Int.ediv_nonneg (by omega) (by omega), ok.s, ok.n⟩
set_option exponentiation.threshold 5000
def cutC (d : D) : D := match d with
  | .int i => .int ((i.natAbs : Int) % 10 ^ 36)
  | d => d
theorem hand_ok (ns : List Int) (h : ns.length ≤ 63) : ∃ m, IsHand m ∧ g__law_hand [.scr ns] [] = .ok (.loc 0) [m] := by
  have cut : cutD (ns.map PyData.int) none (some 63) = ns.map PyData.int := cut63 h
  have pw : ∀ S, oPow (.d (.int 10)) (.d (.int 36)) S = .ok (.d (.int (10 ^ 36))) S := fun S => by simp [oPow]
  have om : ∀ (i : Int) S, oMod (.d (.int i)) (.d (.int 1000000000000000000000000000000000000)) S = .ok (.d (.int (i % 1000000000000000000000000000000000000))) S := fun i S => oMod_int (by decide)
  have lc := lcL_all (tg := gN 2) (f := l0__law_hand) (ρ := [some (.scr ns), none, none]) cutC (S := []) (ns.map PyData.int) [] (fun x hx => by
    obtain ⟨i, _, rfl⟩ := List.mem_map.mp hx
    exact ⟨_, rfl, by simp [l0__law_hand, cutC, pw, om]⟩) (by simp; omega)
  have lc2 : (ns.map PyData.int).map cutC = (ns.map fun i => (i.natAbs : Int) % 10 ^ 36).map PyData.int := by simp [cutC]
  rw [lc2] at lc
  refine ⟨hand (ns.map fun i => (i.natAbs : Int) % 10 ^ 36) 0 0 (2011 + 13 * ns.length) 0, ⟨_, _, _, _, _, ⟨fun c hc => ?_, by decide, by decide, by omega, by decide⟩, rfl⟩, ?_⟩
  · obtain ⟨i, _, rfl⟩ := List.mem_map.mp hc
    exact Int.emod_nonneg _ (by decide)
  · have m : mulOk 13 (ns.length : Int) = true := mulOk_l (by decide)
    have ll : (ns.map fun i => (i.natAbs : Int) % 10 ^ 36).length = ns.length := by simp
    rw [List.nil_append] at lc
    generalize (ns.map fun i => (i.natAbs : Int) % 10 ^ 36) = cs at *
    simp [g__law_hand, ap_fnOf, b__law_hand, slV, cut, seqOf, List.replicate, wipeE, lc, ll, oMul_int, m, leave, hand]
theorem some_ok {xs : List D} {m : MO} {R : Store} (h : xs ≠ []) (hl : xs.length ≤ 1000) (H : IsHand m) : ∃ x m', x ∈ xs ∧ IsHand m' ∧ g__law_any [.loc 0, .d (.list xs)] (m :: R) = .ok (.d x) (m' :: R) := by
  have hp : 0 < xs.length := List.length_pos_iff.mpr h
  obtain ⟨r, m', h0, h1, H', e⟩ := draw_ok xs.length m R (by omega) (by omega) H
  obtain ⟨k, rfl⟩ : ∃ k : Nat, r = k := ⟨r.toNat, by omega⟩
  have hk : k < xs.length := by omega
  have ex : atI xs k = some xs[k] := by rw [atI_nat]; simp [hk]
  refine ⟨xs[k], m', List.getElem_mem hk, H', ?_⟩
  simp [g__law_any, ap_fnOf, b__law_any, e, ex, List.replicate]
theorem isint_ok (d : D) (S : Store) : g_is_integer [.d d] S = .ok (.d (.bool (isI d))) S := by
  cases d <;> simp [g_is_integer, ap_fnOf, b_is_integer, fIsi, isTy, isI]
theorem within_ok (d : D) (lo hi : Int) (S : Store) : g_is_within [.d d, .d (.int lo), .d (.int hi)] S = .ok (.d (.bool (inI lo hi d))) S := by
  cases d with
  | int i =>
    by_cases h : lo ≤ i <;> simp [g_is_within, ap_fnOf, b_is_within, isint_ok, isI, inI, h]
  | _ => simp [g_is_within, ap_fnOf, b_is_within, isint_ok, isI, inI]
theorem tupof_ok (d : D) (n : Int) (S : Store) : g_is_tuple_of [.d d, .d (.int n)] S = .ok (.d (.bool (match d with | .tuple ds => decide ((ds.length : Int) = n) | _ => false))) S := by
  cases d <;> simp [g_is_tuple_of, ap_fnOf, b_is_tuple_of, fIsi, isTy]
def areB (lo hi : Int) : D → Bool
  | .tuple ds => ds.all (inI lo hi)
  | _ => false
theorem are_ok (d : D) (lo hi : Int) (S : Store) (hl : ∀ ds, d = .tuple ds → ds.length ≤ 900) : g_are_within [.d d, .d (.int lo), .d (.int hi)] S = .ok (.d (.bool (areB lo hi d))) S := by
  cases d with
  | tuple ds =>
    have l := hl ds rfl
    have lc := lcL_flag (tg := gN 3) (f := l0_are_within) (ρ := [some (.d (.tuple ds)), some (.d (.int lo)), some (.d (.int hi)), none]) (S := S) (inI lo hi) ds (fun x _ => ⟨_, rfl, by simp [l0_are_within, within_ok]⟩) (by omega)
    have al := all_bools (ds.map (inI lo hi)) S
    rw [List.all_map] at al
    have al : fAll [.d (.list ((ds.map (inI lo hi)).map PyData.bool))] S = .ok (.d (.bool (ds.all (inI lo hi)))) S := al
    generalize (ds.map (inI lo hi)).map PyData.bool = L at lc al
    simp [g_are_within, ap_fnOf, b_are_within, fIsi, isTy, seqOf, wipeE, List.replicate, lc, al, areB, leave]
  | _ => simp [g_are_within, ap_fnOf, b_are_within, fIsi, isTy, areB, List.replicate, leave]
set_option exponentiation.threshold 5000
abbrev NN : Xn := ⟨"NoNumber", []⟩
abbrev NK : Xn := ⟨"NoKinds", []⟩
abbrev NF : Xn := ⟨"NoFlights", []⟩
def kindB : D → Bool
  | .tuple [x, y] => inI 1 100 x && inI 0 40 y
  | _ => false
theorem kind_two (x y : D) (S : Store) : g_is_kind [.d (.tuple [x, y])] S = .ok (.d (.bool (inI 1 100 x && inI 0 40 y))) S := by
  have tu : g_is_tuple_of [.d (.tuple [x, y]), .d (.int 2)] S = .ok (.d (.bool true)) S := tupof_ok _ _ _
  cases q : inI 1 100 x <;> simp [g_is_kind, ap_fnOf, b_is_kind, tu, within_ok, q, oIx, view, oPost, atI, ixN, leave]
theorem kind_other {d : D} {S : Store} (h : g_is_tuple_of [.d d, .d (.int 2)] S = .ok (.d (.bool false)) S) : g_is_kind [.d d] S = .ok (.d (.bool false)) S := by
  simp [g_is_kind, ap_fnOf, b_is_kind, h, leave]
theorem kind_ok (d : D) (S : Store) : g_is_kind [.d d] S = .ok (.d (.bool (kindB d))) S := by
  cases d with
  | tuple ds =>
    match ds with
    | [] => exact kind_other (tupof_ok _ _ _)
    | [x] => exact kind_other (tupof_ok _ _ _)
    | [x, y] => exact kind_two x y S
    | x :: y :: z :: r =>
      refine kind_other ((tupof_ok _ _ _).trans ?_)
      have : ¬ (((x :: y :: z :: r).length : Nat) : Int) = 2 := by simp only [List.length_cons]; omega
      simp only [this, decide_false]
  | _ => exact kind_other (tupof_ok _ _ _)
def kindsB : D → Bool
  | .tuple ds => (decide (1 ≤ ds.length) && decide (ds.length ≤ 6)) && ds.all kindB
  | _ => false
theorem kinds_core {ds B : List D} {dl : Int} {c : Bool} {S : Store} (hd : (ds.length : Int) = dl) (lc : lcL (gN 1) tYesD l0_check_kinds [some (.d (.tuple ds)), none] ds [] S = .ok B S) (al : fAll [.d (.list B)] S = .ok (.d (.bool c)) S) : g_check_kinds [.d (.tuple ds)] S = if ((decide (1 ≤ dl) && decide (dl ≤ 6)) && c) = true then .ok (.d .none) S else .ex NK S := by
  by_cases h1 : 1 ≤ dl
  · by_cases h2 : dl ≤ 6
    · cases c <;> simp [g_check_kinds, ap_fnOf, b_check_kinds, fIsi, isTy, List.replicate, hd, h1, h2, seqOf, wipeE, lc, al, leave]
    · simp [g_check_kinds, ap_fnOf, b_check_kinds, fIsi, isTy, List.replicate, hd, h1, h2, leave]
  · simp [g_check_kinds, ap_fnOf, b_check_kinds, fIsi, isTy, List.replicate, hd, h1, leave]
theorem check_kinds_ok (d : D) (S : Store) (hl : ∀ ds, d = .tuple ds → ds.length ≤ 900) : g_check_kinds [.d d] S = if kindsB d = true then .ok (.d .none) S else .ex NK S := by
  cases d with
  | tuple ds =>
    have lc := lcL_flag (tg := gN 1) (f := l0_check_kinds) (ρ := [some (.d (.tuple ds)), none]) (S := S) kindB ds (fun x _ => ⟨_, rfl, by simp [l0_check_kinds, kind_ok]⟩) (by have := hl ds rfl; omega)
    have al := all_bools (ds.map kindB) S
    rw [List.all_map] at al
    have r := kinds_core (dl := (ds.length : Int)) rfl lc al
    rw [r]
    have e : kindsB (.tuple ds) = ((decide (1 ≤ (ds.length : Int)) && decide ((ds.length : Int) ≤ 6)) && ds.all (id ∘ kindB)) := by
      have e1 : decide (1 ≤ (ds.length : Int)) = decide (1 ≤ ds.length) := by congr 1; apply propext; omega
      have e2 : decide ((ds.length : Int) ≤ 6) = decide (ds.length ≤ 6) := by congr 1; apply propext; omega
      rw [e1, e2]
      rfl
    rw [e]
  | _ => simp [g_check_kinds, ap_fnOf, b_check_kinds, fIsi, isTy, List.replicate, kindsB, leave]
theorem both_ok (d z : D) (S : Store) (hl : ∀ ds, d = .tuple ds → ds.length ≤ 900) : g_check_both [.d d, .d z] S = if kindsB d = true then (if inI 0 4000 z = true then .ok (.d .none) S else .ex NN S) else .ex NK S := by
  have a := check_kinds_ok d S hl
  cases h : kindsB d with
  | false => rw [h] at a; simp [g_check_both, ap_fnOf, b_check_both, a, leave]
  | true =>
    rw [h] at a
    cases q : inI 0 4000 z <;> simp [g_check_both, ap_fnOf, b_check_both, a, within_ok, q, leave]
def knD (k : Kd) : D := .tuple [.int k.1, .int k.2]
def knsD (ks : List Kd) : D := .tuple (ks.map knD)
theorem OkK.hl {ks : List Kd} (h : OkK ks) : ∀ ds, knsD ks = .tuple ds → ds.length ≤ 900 := fun ds q => by
  unfold knsD at q; cases q; have := h.l2; simp; omega
theorem OkK.ok {ks : List Kd} (h : OkK ks) : kindsB (knsD ks) = true := by
  show ((decide (1 ≤ (ks.map knD).length) && decide ((ks.map knD).length ≤ 6)) && (ks.map knD).all kindB) = true
  rw [List.length_map, decide_eq_true h.l1, decide_eq_true h.l2, List.all_map]
  show ks.all (kindB ∘ knD) = true
  refine List.all_eq_true.mpr fun k hk => ?_
  show (inI 1 100 (.int k.1) && inI 0 40 (.int k.2)) = true
  simp [inI, h.al k hk]
theorem OkK.check {ks : List Kd} (h : OkK ks) (S : Store) : g_check_kinds [.d (knsD ks)] S = .ok (.d .none) S := by
  rw [check_kinds_ok _ _ h.hl, h.ok]; rfl
theorem OkK.both {ks : List Kd} (h : OkK ks) {z : Int} (hz : 0 ≤ z ∧ z ≤ 4000) (S : Store) : g_check_both [.d (knsD ks), .d (.int z)] S = .ok (.d .none) S := by
  rw [both_ok _ _ _ h.hl, h.ok, show inI 0 4000 (.int z) = true by simp [inI, hz]]; rfl
theorem mul_lo {i j : Int} (h : 1 ≤ i ∧ i ≤ 100) : mulOk i j = true := mulOk_l (by omega)
theorem zip_ks (ks : List Kd) (fs : List Int) : zipD (ks.map knD) (iD fs) = (List.zip ks fs).map fun p => .tuple [knD p.1, .int p.2] := zip_map knD PyData.int ks fs
theorem zip_memK {ks : List Kd} {fs : List Int} {p : Kd × Int} (h : p ∈ List.zip ks fs) : p.1 ∈ ks := (List.of_mem_zip h).1
theorem noise_core {v : Vl} {C Fs Z N : List D} {n : Int} {S : Store} (hv : fr v S = .ok (.tuple Fs) S) (hz : zipD C Fs = Z) (lc : lcL (gT [(gT [(gN 3), (gN 4)]), (gN 2)]) tYesD l0_raw_noise [some (.d (.tuple C)), some v, none, none, none] Z [] S = .ok N S) (sm : fSumX [.d (.list N)] S = .ok (.d (.int n)) S) : g_raw_noise [.d (.tuple C), v] S = .ok (.d (.int n)) S := by
  simp [g_raw_noise, ap_fnOf, b_raw_noise, List.replicate, iZipX, frs, hv, hz, wipeE, lc, sm, leave]
theorem raw_noise_ok {ks : List Kd} {fs : List Int} (h : OkK ks) (S : Store) : g_raw_noise [.d (knsD ks), .d (.tuple (iD fs))] S = .ok (.d (.int (noi ks fs))) S := by
  have lc := lcL_map (tg := gT [(gT [(gN 3), (gN 4)]), (gN 2)]) (f := l0_raw_noise) (ρ := [some (.d (knsD ks)), some (.d (.tuple (iD fs))), none, none, none]) (S := S) (fun p : Kd × Int => .tuple [knD p.1, .int p.2]) (fun p => .int (p.1.1 * p.2)) (List.zip ks fs) (fun p hp => ⟨_, rfl, by
    have m : mulOk p.1.1 p.2 = true := mul_lo (h.al _ (zip_memK hp)).1
    simp [l0_raw_noise, oMul_int, m]⟩) (by have := h.l2; simp; omega)
  have sm := sumX_list ((List.zip ks fs).map fun p => p.1.1 * p.2) S
  rw [noi_zip] at sm
  unfold iD at sm
  rw [List.map_map] at sm
  exact noise_core rfl (zip_ks ks fs) lc sm
theorem law_core {v : Vl} {C Fs Z N : List D} {n : Int} {S : Store} (hv : fr v S = .ok (.tuple Fs) S) (hz : zipD C Fs = Z) (lc : lcL (gT [(gT [(gN 3), (gN 4)]), (gN 2)]) tYesD l0__law_noise [some (.d (.tuple C)), some v, none, none, none] Z [] S = .ok N S) (sm : fSumX [.d (.list N)] S = .ok (.d (.int n)) S) : g__law_noise [.d (.tuple C), v] S = .ok (.d (.int n)) S := by
  simp [g__law_noise, ap_fnOf, b__law_noise, List.replicate, iZipX, frs, hv, hz, wipeE, lc, sm, leave]
theorem law_noise_ok {ks : List Kd} {fs : List Int} (h : OkK ks) (S : Store) : g__law_noise [.d (knsD ks), .d (.tuple (iD fs))] S = .ok (.d (.int (noi ks fs))) S := by
  have lc := lcL_map (tg := gT [(gT [(gN 3), (gN 4)]), (gN 2)]) (f := l0__law_noise) (ρ := [some (.d (knsD ks)), some (.d (.tuple (iD fs))), none, none, none]) (S := S) (fun p : Kd × Int => .tuple [knD p.1, .int p.2]) (fun p => .int (p.1.1 * p.2)) (List.zip ks fs) (fun p hp => ⟨_, rfl, by
    have m : mulOk p.1.1 p.2 = true := mul_lo (h.al _ (zip_memK hp)).1
    simp [l0__law_noise, oMul_int, m]⟩) (by have := h.l2; simp; omega)
  have sm := sumX_list ((List.zip ks fs).map fun p => p.1.1 * p.2) S
  rw [noi_zip] at sm
  unfold iD at sm
  rw [List.map_map] at sm
  exact law_core rfl (zip_ks ks fs) lc sm
set_option exponentiation.threshold 5000
def env7 (C : List D) (z : Int) (l : Int) (a b c : Option Vl) (n : Nat) : Env := [some (.d (.tuple C)), some (.d (.int z)), some (.loc n), some (.d (.int l)), a, b, c]
theorem put_st {C : List D} {F : List Int} {R : Store} {z l L w m : Int} {i : Nat} {a b c : Option Vl} {x : Int} (hi : i < F.length) (hC : atI C (i : Int) = some (.tuple [.int x, .int w])) (hL : 1 ≤ L ∧ L ≤ 100) (hm : min w (l / L) = m) :
    l1_raw_quiet [some (.d (.tuple C)), some (.d (.int z)), some (.loc R.length), some (.d (.int l)), some (.d (.int L)), some (.d (.int (i : Int))), c] (R ++ [.lst (iD F)]) = .nx [some (.d (.tuple C)), some (.d (.int z)), some (.loc R.length), some (.d (.int (l - m * L))), some (.d (.int L)), some (.d (.int (i : Int))), c] (R ++ [.lst (iD (F.set i m))]) := by
  have hs : L < 2 ^ 4000 := Int.lt_of_le_of_lt hL.2 (by decide)
  have h0 : 0 < L := by omega
  have mo : mulOk m L = true := mulOk_r (by omega)
  have mn : (if l / L < w then l / L else w) = m := by rw [← hm]; split <;> omega
  have ix := ixN_ok (n := (iD F).length) (i := i) (by rw [iD_len]; exact hi)
  have g1 : (R ++ [MO.lst (iD F)])[R.length]? = some (.lst (iD F)) := by simp
  have dv : oDiv (.d (.int l)) (.d (.int L)) (R ++ [.lst (iD F)]) = .ok (.d (.int (l / L))) (R ++ [.lst (iD F)]) := oDiv_int h0 hs
  have st : (R ++ [MO.lst (iD F)]).set R.length (.lst ((iD F).set i (.int m))) = R ++ [.lst (iD (F.set i m))] := by
    rw [iD_set]
    simp
  have g2 : (R ++ [MO.lst (iD (F.set i m))])[R.length]? = some (.lst (iD (F.set i m))) := by simp
  have ga : atI (iD (F.set i m)) (i : Int) = some (.int m) := by
    rw [at_iD (by simpa using hi), at_set hi, if_pos rfl]
  have p1 : sPut (eVar 2) (eVar 5) (eCall fMin2 (aCons (eBin oIx (eBin oIx (eVar 0) (eVar 5)) (eD (.int 1))) (aCons (eBin oDiv (eVar 3) (eVar 4)) aNil))) [some (.d (.tuple C)), some (.d (.int z)), some (.loc R.length), some (.d (.int l)), some (.d (.int L)), some (.d (.int (i : Int))), c] (R ++ [.lst (iD F)]) = .nx [some (.d (.tuple C)), some (.d (.int z)), some (.loc R.length), some (.d (.int l)), some (.d (.int L)), some (.d (.int (i : Int))), c] (R ++ [.lst (iD (F.set i m))]) := by
    simp only [ap_sPut, ap_eCall, ap_aCons, ap_aNil, ap_eBin, ap_eVar, ap_eD, List.getElem?_cons_succ, List.getElem?_cons_zero, bind_ok]
    have o1 : oIx (.d (.tuple C)) (.d (.int (i : Int))) (R ++ [MO.lst (iD F)]) = .ok (.d (.tuple [.int x, .int w])) (R ++ [MO.lst (iD F)]) := by
      simp [oIx, view, hC, oPost]
    have o2 : oIx (.d (.tuple [.int x, .int w])) (.d (.int 1)) (R ++ [MO.lst (iD F)]) = .ok (.d (.int w)) (R ++ [MO.lst (iD F)]) := by
      simp [oIx, view, oPost, atI, ixN]
    have o3 : fMin2 [.d (.int w), .d (.int (l / L))] (R ++ [MO.lst (iD F)]) = .ok (.d (.int m)) (R ++ [MO.lst (iD F)]) := by
      simp only [fMin2, view_d, mn]
    rw [o1, bind_ok, o2, bind_ok, dv, bind_ok, bind_ok, bind_ok, o3]
    simp only [st_ok, fr_d, view_d, g1, ix, st]
  rw [l1_raw_quiet, ap_sCons, p1, seq_nx, ap_sAug (v := .d (.int l)) rfl]
  have o4 : oIx (.loc R.length) (.d (.int (i : Int))) (R ++ [MO.lst (iD (F.set i m))]) = .ok (.d (.int m)) (R ++ [MO.lst (iD (F.set i m))]) := by
    simp only [oIx, view, g2, ga, oPost]
  simp only [ap_eBin, ap_eVar, List.getElem?_cons_succ, List.getElem?_cons_zero, bind_ok, o4, oMul_int, mo, if_true]
  simp
theorem quiet_loop {ks : List Kd} (h : OkK ks) (R : Store) (z : Int) : ∀ (o : List Pk) (F : List Int) (l : Int) (a b c : Option Vl), F.length = ks.length → (∀ p ∈ o, p.2 < ks.length ∧ p.1 = lo ks p.2) →
    ∃ l' a' b', forL (gT [gN 4, gN 5]) l1_raw_quiet (o.map ekD) [some (.d (knsD ks)), some (.d (.int z)), some (.loc R.length), some (.d (.int l)), a, b, c] (R ++ [.lst (iD F)]) = .nx [some (.d (knsD ks)), some (.d (.int z)), some (.loc R.length), some (.d (.int l')), a', b', c] (R ++ [.lst (iD (qF ks o F l))]) := by
  intro o
  induction o with
  | nil => intro F l a b c _ _; exact ⟨l, a, b, rfl⟩
  | cons p r ih =>
    intro F l a b c hl ho
    obtain ⟨p1, p2⟩ := ho p (by simp)
    have g := h.lo p1
    have hC : atI (ks.map knD) (p.2 : Int) = some (.tuple [.int (lo ks p.2), .int (wa ks p.2)]) := by
      rw [atI_nat, List.getElem?_map, List.getElem?_eq_getElem p1]
      simp [knD, lo, wa, p1]
    obtain ⟨l', a', b', e⟩ := ih (F.set p.2 (min (wa ks p.2) (l / p.1))) (l - min (wa ks p.2) (l / p.1) * p.1) (some (.d (.int p.1))) (some (.d (.int (p.2 : Nat)))) c (by simpa using hl) (fun q hq => ho q (by simp [hq]))
    refine ⟨l', a', b', ?_⟩
    rw [List.map_cons, ap_forL1]
    have tg : gT [gN 4, gN 5] (.d (ekD p)) [some (.d (knsD ks)), some (.d (.int z)), some (.loc R.length), some (.d (.int l)), a, b, c] = some [some (.d (knsD ks)), some (.d (.int z)), some (.loc R.length), some (.d (.int l)), some (.d (.int p.1)), some (.d (.int (p.2 : Nat))), c] := rfl
    rw [tg]
    have st := put_st (C := ks.map knD) (F := F) (R := R) (z := z) (l := l) (L := p.1) (a := a) (b := b) (c := c) (i := p.2) (by omega) hC (by omega) rfl
    show (match l1_raw_quiet [some (.d (.tuple (ks.map knD))), some (.d (.int z)), some (.loc R.length), some (.d (.int l)), some (.d (.int p.1)), some (.d (.int (p.2 : Nat))), c] (R ++ [.lst (iD F)]) with
      | .nx ρ2 S2 => forL _ _ _ ρ2 S2
      | .ct ρ2 S2 => forL _ _ _ ρ2 S2
      | .bk ρ2 S2 => .nx ρ2 S2
      | r => r) = _
    rw [st]
    exact e
theorem enum_ks (ks : List Kd) : enumD (ks.map knD) = (List.range ks.length).map fun i => .tuple [.int (i : Nat), .tuple [.int (lo ks i), .int (wa ks i)]] := by
  apply List.ext_getElem
  · simp [enumD]
  · intro i h1 h2
    have hi : i < ks.length := by simpa [enumD] using h1
    simp [enumD, knD, lo, wa, hi]
theorem fn_ret {n : Nat} {sb : Sv} {vs : List Vl} {S S1 : Store} {v : D} (h : sb (vs.map some ++ List.replicate (n - vs.length) none) S = .ret (.d v) S1) : fnOf n sb vs S = .ok (.d v) (S1.take S.length) := by
  rw [ap_fnOf, h]
  rfl
theorem quiet_core {C E B O : List D} {F X : List Int} {n l z : Int} {a b : Option Vl} {S : Store} (hd : (C.length : Int) = n) (mu : oMul true (.d (.list [.int 0])) (.d (.int n)) S = .ok (.loc S.length) (S ++ [.lst (iD F)]))
    (he : enumD C = E) (lc : lcL (gT [(gN 5), (gT [(gN 4), (gN 6)])]) tYesD l0_raw_quiet [some (.d (.tuple C)), some (.d (.int z)), some (.loc S.length), some (.d (.int z)), none, none, none] E [] (S ++ [.lst (iD F)]) = .ok B (S ++ [.lst (iD F)]))
    (so : fSortL false [.d (.list B)] (S ++ [.lst (iD F)]) = .ok (.d (.list O)) (S ++ [.lst (iD F)]))
    (fl : forL (gT [gN 4, gN 5]) l1_raw_quiet O [some (.d (.tuple C)), some (.d (.int z)), some (.loc S.length), some (.d (.int z)), none, none, none] (S ++ [.lst (iD F)]) = .nx [some (.d (.tuple C)), some (.d (.int z)), some (.loc S.length), some (.d (.int l)), a, b, none] (S ++ [.lst (iD X)])) :
    g_raw_quiet [.d (.tuple C), .d (.int z)] S = .ok (.d (.tuple (iD X))) S := by
  have vw : view (S ++ [MO.lst (iD X)]) (.loc S.length) = some (.list (iD X)) := by simp [view]
  generalize S.length = k at *
  generalize eS : S ++ [MO.lst (iD F)] = S1 at *
  have s1 : sPar [(gN 2), (gN 3)] (aCons (eBin (oMul true) (eLst false (aCons (eD (.int 0)) aNil)) (eCall fLen (aCons (eVar 0) aNil))) (aCons (eVar 1) aNil)) [some (.d (.tuple C)), some (.d (.int z)), none, none, none, none, none] S = .nx [some (.d (.tuple C)), some (.d (.int z)), some (.loc k), some (.d (.int z)), none, none, none] S1 := by
    simp [hd, mu]
  have it : iSeq (eCall (fSortL false) (aCons (eLc false (iEnumD (eVar 0)) (gT [(gN 5), (gT [(gN 4), (gN 6)])]) tYesD l0_raw_quiet [5, 4, 6]) aNil)) [some (.d (.tuple C)), some (.d (.int z)), some (.loc k), some (.d (.int z)), none, none, none] S1 = .ok O S1 := by
    simp [iEnumD, seqOf, he, wipeE, lc, so]
  have s3 : sRet (eCall fTuple (aCons (eVar 2) aNil)) [some (.d (.tuple C)), some (.d (.int z)), some (.loc k), some (.d (.int l)), a, b, none] (S ++ [.lst (iD X)]) = .ret (.d (.tuple (iD X))) (S ++ [.lst (iD X)]) := by
    simp [fTuple, vw, seqOf]
  have key : b_raw_quiet [some (.d (.tuple C)), some (.d (.int z)), none, none, none, none, none] S = .ret (.d (.tuple (iD X))) (S ++ [.lst (iD X)]) := by
    rw [b_raw_quiet, ap_sCons, s1, seq_nx, ap_sCons, ap_sFor, it, st_ok, fl, seq_nx, s3]
  have e := fn_ret (n := 7) (sb := b_raw_quiet) (vs := [.d (.tuple C), .d (.int z)]) key
  rw [List.take_left] at e
  exact e
theorem raw_quiet_ok {ks : List Kd} (h : OkK ks) (z : Int) (S : Store) : g_raw_quiet [.d (knsD ks), .d (.int z)] S = .ok (.d (.tuple (iD (quiet ks z)))) S := by
  obtain ⟨l, a, b, fl⟩ := quiet_loop h S z (ord ks) (List.replicate ks.length 0) z none none none (by simp) (fun p hp => ord_mem.mp hp)
  have l6 := h.l2
  have lc := lcL_map (tg := (gT [(gN 5), (gT [(gN 4), (gN 6)])])) (f := l0_raw_quiet) (ρ := [some (.d (knsD ks)), some (.d (.int z)), some (.loc S.length), some (.d (.int z)), none, none, none]) (S := S ++ [.lst (iD (List.replicate ks.length 0))]) (fun i : Nat => .tuple [.int (i : Nat), .tuple [.int (lo ks i), .int (wa ks i)]]) (fun i => ekD (lo ks i, i)) (List.range ks.length) (fun i hi => ⟨_, rfl, by simp [l0_raw_quiet, ekD, frs]⟩) (by simp; omega)
  have e : (List.range ks.length).map (fun i => ekD (lo ks i, i)) = (enu ks).map ekD := by simp [enu]
  rw [e] at lc
  have so : ∀ S, fSortL false [.d (.list ((enu ks).map ekD))] S = .ok (.d (.list ((ord ks).map ekD))) S := fun S => by
    obtain ⟨s1, s2⟩ := ok_ek (enu ks)
    have sz : ((enu ks).map ekD).length ≤ sizeLine := line1000 (by simp [enu]; omega)
    have sr := sort_ek (enu ks)
    unfold ord
    rw [← sr]
    generalize (enu ks).map ekD = B at *
    simp [fSortL, s1, s2, sz]
  refine quiet_core (n := (ks.length : Int)) (by simp) ?_ (enum_ks ks) lc (so _) fl
  have ln : ks.length ≤ sizeLine := line1000 (by omega)
  have r1 : (List.replicate ks.length [PyData.int 0]).flatten = iD (List.replicate ks.length 0) := by
    simp [iD, List.map_replicate]
  have b1 : (ks.length : Int) < 2 ^ 63 := by omega
  have b2 : -(2 ^ 63) ≤ (ks.length : Int) := by omega
  have z1 : [PyData.int 0].length * ((ks.length : Nat) : Int).toNat ≤ sizeLine := by rw [Int.toNat_natCast]; simpa using ln
  unfold oMul
  simp only [view_d]
  rw [if_pos ⟨b2, b1, z1⟩, Int.toNat_natCast, r1, ap_mkT]
set_option exponentiation.threshold 5000
theorem most_core {C z : D} {Q : List D} {n : Int} {S : Store} (hb : g_check_both [.d C, .d z] S = .ok (.d .none) S) (hq : g_raw_quiet [.d C, .d z] S = .ok (.d (.tuple Q)) S) (hs : fSumX [.d (.tuple Q)] S = .ok (.d (.int n)) S) : g_most_flights [.d C, .d z] S = .ok (.d (.int n)) S := by
  simp [g_most_flights, ap_fnOf, b_most_flights, List.replicate, hb, hq, hs, leave]
theorem most_ok {ks : List Kd} (h : OkK ks) {z : Int} (hz : 0 ≤ z ∧ z ≤ 4000) (S : Store) : g_most_flights [.d (knsD ks), .d (.int z)] S = .ok (.d (.int (quiet ks z).sum)) S :=
  most_core (h.both hz S) (raw_quiet_ok h z S) (sumX_tup _ _)
set_option exponentiation.threshold 5000
theorem iRange_1 {fs : Av} {ρ : Env} {S S1 : Store} {j : Int} (h : fs ρ S = .ok [.d (.int j)] S1) (h1 : -1000000 ≤ j) (h2 : j < 1000000) : iRange fs ρ S = .ok (rangeD 0 j) S1 := by
  have a : -(2 ^ 62) ≤ j ∧ j < 2 ^ 62 := by omega
  unfold iRange
  rw [h, bind_ok]
  simp only [view_d, if_pos a]
theorem rangeD_iD {n : Nat} {j : Int} (h : j = n) : rangeD 0 j = iD ((List.range n).map fun (i : Nat) => (i : Int)) := by
  subst h
  unfold rangeD iD
  rw [List.map_map, Int.sub_zero, Int.toNat_natCast]
  apply List.map_congr_left
  intro i _
  simp
theorem atI_last {α : Type} {xs : List α} {x : α} (h : xs.getLast? = some x) : atI xs (-1) = some x := by
  obtain ⟨Y, rfl⟩ := List.getLast?_eq_some_iff.mp h
  have c : -(((Y ++ [x]).length : Nat) : Int) ≤ -1 := by simp only [List.length_append, List.length_cons, List.length_nil]; omega
  unfold atI ixN
  rw [if_neg (by omega), if_pos c]
  have e : ((-1 : Int) + ((Y ++ [x]).length : Nat)).toNat = Y.length := by simp only [List.length_append, List.length_cons, List.length_nil]; omega
  simp only [Option.bind_some, e]
  simp
set_option exponentiation.threshold 5000
def Sm : Nat → D → Prop
  | _, .none => True
  | _, .bool _ => True
  | _, .int i => True
  | _, .str _ => True
  | n + 1, .list ds => ds.length ≤ 900 ∧ ∀ d ∈ ds, Sm n d
  | n + 1, .tuple ds => ds.length ≤ 900 ∧ ∀ d ∈ ds, Sm n d
  | _, _ => False
theorem law_is_ok : ∀ (n : Nat) (d : D) (S : Store), Sm n d → g__law_is (n + 1) [.d d, .d d] S = .ok (.d (.bool true)) S
  | n, .none, S, h => by simp [g__law_is, ap_fnOf, b__law_is, fIsi, isTy, tysOf, List.replicate, oIs, isNone]
  | n, .bool b, S, _ => by simp [g__law_is, ap_fnOf, b__law_is, fIsi, isTy, tysOf, List.replicate, oIs, isNone]
  | n, .int i, S, h => by simp [g__law_is, ap_fnOf, b__law_is, fIsi, isTy, tysOf, List.replicate, oIs, isNone]
  | n, .str x, S, h => by simp [g__law_is, ap_fnOf, b__law_is, fIsi, isTy, tysOf, List.replicate, oIs, isNone]
  | n, .dict _, S, h => by cases n <;> exact h.elim
  | 0, .list ds, S, h => h.elim
  | 0, .tuple ds, S, h => h.elim
  | n + 1, .list ds, S, h => by
    have lc := lcL_all (tg := gT [gN 2, gN 3]) (f := l0__law_is (g__law_is (n + 1))) (ρ := [some (.d (.list ds)), some (.d (.list ds)), none, none]) (fun _ => .bool true) (S := S) (zipD ds ds) [] (fun x hx => by
      obtain ⟨d, hd, rfl⟩ := zip_mem hx
      exact ⟨_, rfl, by simp [l0__law_is, law_is_ok n d S (h.2 d hd)]⟩) (by rw [zipD_len]; have := h.1; simp; omega)
    have al := all_true (S := S) ([] ++ (zipD ds ds).map fun _ => PyData.bool true) (n := (zipD ds ds).length) (by simp [List.map_const'])
    simp at lc al
    rw [show g__law_is (n + 1 + 1) = fnOf 4 (b__law_is (g__law_is (n + 1))) from rfl]
    generalize g__law_is (n + 1) = rc at lc ⊢
    simp [ap_fnOf, b__law_is, fIsi, isTy, tysOf, List.replicate, oIs, isNone, iZipX, wipeE, lc, al]
  | n + 1, .tuple ds, S, h => by
    have lc := lcL_all (tg := gT [gN 2, gN 3]) (f := l0__law_is (g__law_is (n + 1))) (ρ := [some (.d (.tuple ds)), some (.d (.tuple ds)), none, none]) (fun _ => .bool true) (S := S) (zipD ds ds) [] (fun x hx => by
      obtain ⟨d, hd, rfl⟩ := zip_mem hx
      exact ⟨_, rfl, by simp [l0__law_is, law_is_ok n d S (h.2 d hd)]⟩) (by rw [zipD_len]; have := h.1; simp; omega)
    have al := all_true (S := S) ([] ++ (zipD ds ds).map fun _ => PyData.bool true) (n := (zipD ds ds).length) (by simp [List.map_const'])
    simp at lc al
    rw [show g__law_is (n + 1 + 1) = fnOf 4 (b__law_is (g__law_is (n + 1))) from rfl]
    generalize g__law_is (n + 1) = rc at lc ⊢
    simp [ap_fnOf, b__law_is, fIsi, isTy, tysOf, List.replicate, oIs, isNone, iZipX, wipeE, lc, al]
theorem sm_int (k : Nat) (i : Int) : Sm k (.int i) := by cases k <;> exact True.intro
theorem sm_str (k : Nat) (x : Str) : Sm k (.str x) := by cases k <;> exact True.intro
theorem sm_tup {k : Nat} {ds : List D} (h : ds.length ≤ 900) (h2 : ∀ d ∈ ds, Sm k d) : Sm (k + 1) (.tuple ds) := ⟨h, h2⟩
theorem kinds_lc (sz : Int) (hs : 1 ≤ sz ∧ sz ≤ 100) : ∀ (xs acc : List D) (m : MO), IsHand m → acc.length + xs.length ≤ 1000 → ∃ (ks : List Kd) (m' : MO), IsHand m' ∧ ks.length = xs.length ∧ (∀ k ∈ ks, (1 ≤ k.1 ∧ k.1 ≤ 100) ∧ (0 ≤ k.2 ∧ k.2 ≤ 5)) ∧ lcL (gN 2) tYesD l0__law_kinds [some (.loc 0), some (.d (.int sz)), none] xs acc [m] = .ok (acc ++ ks.map knD) [m'] := by
  intro xs
  induction xs with
  | nil => exact fun acc m H _ => ⟨[], m, H, rfl, by simp, by simp⟩
  | cons x xs ih =>
    intro acc m H hl
    have hl' : acc.length + (xs.length + 1) ≤ 1000 := hl
    obtain ⟨r, m1, r0, r1, H1, e1⟩ := draw_ok sz m [] (by omega) (by omega) H
    obtain ⟨q, m2, q0, q1, H2, e2⟩ := draw_ok 6 m1 [] (by omega) (by omega) H1
    obtain ⟨ks, m', H', l', h', e⟩ := ih (acc ++ [knD (1 + r, q)]) m2 H2 (by simp; omega)
    refine ⟨(1 + r, q) :: ks, m', H', by simp [l'], fun k hk => ?_, ?_⟩
    · rcases List.mem_cons.mp hk with rfl | hk
      · exact ⟨⟨by show 1 ≤ 1 + r; omega, by show 1 + r ≤ 100; omega⟩, by show 0 ≤ q ∧ q ≤ 5; omega⟩
      · exact h' k hk
    · have hs : acc.length < sizeLine := Nat.lt_of_lt_of_le (by omega) (line1000 (Nat.le_refl 1000))
      have el : l0__law_kinds [some (.loc 0), some (.d (.int sz)), some (.d x)] [m] = .ok (.d (knD (1 + r, q))) [m2] := by
        simp [l0__law_kinds, e1, e2, knD, frs]
      unfold lcL
      simp only [ap_gN, List.set_cons_succ, List.set_cons_zero, ap_tYesD, noX_ok, bind_ok, if_true, el, fr_d, hs]
      rw [e]
      simp
structure OkD (ks : List Kd) : Prop where
  k : OkK ks
  l4 : ks.length ≤ 4
  w5 : ∀ k ∈ ks, k.2 ≤ 5
theorem kinds_ok {m : MO} (H : IsHand m) : ∃ ks m', OkD ks ∧ IsHand m' ∧ g__law_kinds [.loc 0] [m] = .ok (.d (knsD ks)) [m'] := by
  obtain ⟨y, m1, hy, H1, e1⟩ := some_ok (xs := [.int 3, .int 10, .int 100]) (R := []) (by simp) (by simp) H
  obtain ⟨sz, rfl, s0⟩ : ∃ u : Int, y = .int u ∧ (1 ≤ u ∧ u ≤ 100) := by
    simp at hy
    rcases hy with rfl | rfl | rfl <;> exact ⟨_, rfl, by decide, by decide⟩
  obtain ⟨r, m2, r0, r1, H2, e2⟩ := draw_ok 4 m1 [] (by omega) (by omega) H1
  obtain ⟨ks, m3, H3, l3, h3, e3⟩ := kinds_lc sz s0 (rangeD 0 (1 + r)) [] m2 H2 (by simp [rangeD_len]; omega)
  rw [rangeD_len] at l3
  refine ⟨ks, m3, ⟨⟨by omega, by omega, fun k hk => ⟨(h3 k hk).1, (h3 k hk).2.1, by have := (h3 k hk).2.2; omega⟩⟩, by omega, fun k hk => (h3 k hk).2.2⟩, H3, ?_⟩
  rw [List.nil_append] at e3
  have it : iRange (aCons (eBin (oAdd false) (eD (.int 1)) (eCallN 2 g__law_draw (aCons (eVar 0) (aCons (eD (.int 4)) aNil)))) aNil) [some (.loc 0), some (.d (.int sz)), none] [m1] = .ok (rangeD 0 (1 + r)) [m2] := iRange_1 (by simp [e2]) (by omega) (by omega)
  generalize rangeD 0 (1 + r) = X at *
  unfold knsD
  generalize ks.map knD = Y at *
  simp [g__law_kinds, ap_fnOf, b__law_kinds, List.replicate, e1, it, wipeE, e3, fTuple, seqOf, leave]
def rowsD (X : List (List Int)) : List D := X.map rwD
theorem every_st {C : D} {v : Vl} {l w : Int} {u : Nat} {r : List Int} {A : List (List Int)} {U : Store} {a : Option Vl} (hu : U.length = u) (hw : 0 ≤ w ∧ w ≤ 40) (hr : r.length ≤ 900) (hA : A.length + (lon w r).length ≤ 16000000) :
    l1__law_every [some (.d C), some v, some (.d (.int l)), some (.d (.int w)), some (.loc u), some (.d (rwD r)), a] (U ++ [.lst (rowsD A)]) = .nx [some (.d C), some v, some (.d (.int l)), some (.d (.int w)), some (.loc u), some (.d (rwD r)), a] (U ++ [.lst (rowsD (A ++ lon w r))]) := by
  have sz : ∀ n, n ≤ 1000 → n ≤ sizeLine := fun n h => line1000 h
  have lc := lcL_map (tg := gN 6) (f := l0__law_every) (ρ := [some (.d C), some v, some (.d (.int l)), some (.d (.int w)), some (.loc u), some (.d (rwD r)), none]) (S := U ++ [.lst (rowsD A)]) (fun i : Nat => .int (0 + (i : Int))) (fun i => rwD (r ++ [(i : Int)])) (List.range (w + 1 - 0).toNat) (fun i hi => ⟨_, rfl, by
    have : r.length + 1 ≤ sizeLine := sz _ (by omega)
    simp [l0__law_every, rwD, frs, oAdd, iD_len, this]
    simp [iD]⟩) (by simp; omega)
  rw [show (List.range (w + 1 - 0).toNat).map (fun i : Nat => PyData.int (0 + (i : Int))) = rangeD 0 (w + 1) from rfl] at lc
  rw [show (List.range (w + 1 - 0).toNat).map (fun i : Nat => rwD (r ++ [(i : Int)])) = rowsD (lon w r) by rw [Int.sub_zero]; simp [rowsD, lon]] at lc
  have g1 : (U ++ [MO.lst (rowsD A)])[u]? = some (.lst (rowsD A)) := by subst hu; simp
  have st : ∀ X, (U ++ [MO.lst (rowsD A)]).set u X = U ++ [X] := fun X => by subst hu; simp
  have s2 : (rowsD A).length + (rowsD (lon w r)).length ≤ sizeLine := line16 (by simpa [rowsD] using hA)
  have ap : rowsD (A ++ lon w r) = rowsD A ++ rowsD (lon w r) := by simp [rowsD]
  rw [ap]
  generalize eS : U ++ [MO.lst (rowsD A)] = S1 at *
  have it : iRange (aCons (eBin (oAdd false) (eVar 3) (eD (.int 1))) aNil) [some (.d C), some v, some (.d (.int l)), some (.d (.int w)), some (.loc u), some (.d (rwD r)), a] S1 = .ok (rangeD 0 (w + 1)) S1 := iRange_1 (by simp) (by omega) (by omega)
  generalize rangeD 0 (w + 1) = X at *
  generalize rowsD A = A1 at *
  generalize rowsD (lon w r) = B1 at *
  simp [l1__law_every, eExt, isLst, g1, it, wipeE, lc, putExt, s2, st]
theorem every_in {C : D} {v : Vl} {l w : Int} {u : Nat} {U : Store} (hu : U.length = u) (hw : 0 ≤ w ∧ w ≤ 5) : ∀ (X A : List (List Int)) (a b : Option Vl), (∀ r ∈ X, r.length ≤ 900) → A.length + 6 * X.length ≤ 16000000 →
    ∃ a', forL (gN 5) l1__law_every (rowsD X) [some (.d C), some v, some (.d (.int l)), some (.d (.int w)), some (.loc u), a, b] (U ++ [.lst (rowsD A)]) = .nx [some (.d C), some v, some (.d (.int l)), some (.d (.int w)), some (.loc u), a', b] (U ++ [.lst (rowsD (A ++ X.flatMap (lon w)))]) := by
  intro X
  induction X with
  | nil => intro A a b _ _; exact ⟨a, by simp [rowsD]⟩
  | cons r X ih =>
    intro A a b hr hl
    have hl' : A.length + 6 * (X.length + 1) ≤ 16000000 := hl
    have ll : (lon w r).length ≤ 6 := by simp [lon]; omega
    obtain ⟨a', e⟩ := ih (A ++ lon w r) (some (.d (rwD r))) b (fun q hq => hr q (by simp [hq])) (by simp; omega)
    refine ⟨a', ?_⟩
    have st := every_st (C := C) (v := v) (l := l) (w := w) (r := r) (A := A) (a := b) hu (by omega) (hr r (by simp)) (by omega)
    rw [List.flatMap_cons, ← List.append_assoc, show rowsD (r :: X) = rwD r :: rowsD X from rfl, ap_forL1, ap_gN]
    simp only [List.set_cons_succ, List.set_cons_zero]
    rw [st]
    exact e
structure Fd (S : Store) (v : Vl) (U : Store) (X : List (List Int)) (U1 : Store) : Prop where
  fr : fr v U = .ok (.list (rowsD X)) U1
  tk : U1.take S.length = S
  le : S.length ≤ U1.length
theorem every_kd {C : D} {S : Store} {v : Vl} {U U1 : Store} {X : List (List Int)} {l w : Int} {a b c : Option Vl} (f : Fd S v U X U1) (hU : U1.length = U.length) (hw : 0 ≤ w ∧ w ≤ 5) (hr : ∀ r ∈ X, r.length ≤ 900) (hl : 6 * X.length ≤ 16000000) (na : ∀ W, fr v (U ++ [W]) = .ok (.list (rowsD X)) (U1 ++ [W])) :
    ∃ a', l2__law_every [some (.d C), some v, some (.d (.int l)), some (.d (.int w)), a, b, c] U = .nx [some (.d C), some (.loc U1.length), some (.d (.int l)), some (.d (.int w)), some (.loc U1.length), a', c] (U1 ++ [.lst (rowsD (X.flatMap (lon w)))]) := by
  obtain ⟨a', e⟩ := every_in (C := C) (v := v) (l := l) (w := w) (U := U1) rfl hw X [] b c hr (by simpa using hl)
  refine ⟨a', ?_⟩
  have it : iSeq (eVar 1) [some (.d C), some v, some (.d (.int l)), some (.d (.int w)), some (.loc U1.length), b, c] (U ++ [.lst (rowsD [])]) = .ok (rowsD X) (U1 ++ [.lst (rowsD [])]) := by
    simp [na, seqOf]
  rw [List.nil_append] at e
  have s1 : sSet 4 (eLst true aNil) [some (.d C), some v, some (.d (.int l)), some (.d (.int w)), a, b, c] U = .nx [some (.d C), some v, some (.d (.int l)), some (.d (.int w)), some (.loc U1.length), b, c] (U ++ [.lst (rowsD [])]) := by
    simp [frs, rowsD, hU]
  rw [l2__law_every, ap_sCons, s1, seq_nx, ap_sCons, ap_sFor, it, st_ok, e, seq_nx]
  simp
theorem every_all {S : Store} {C : D} : ∀ (ks : List Kd) (v : Vl) (U U1 : Store) (X : List (List Int)) (a b c d e : Option Vl), Fd S v U X U1 → U1.length = U.length → (∀ W, fr v (U ++ [W]) = .ok (.list (rowsD X)) (U1 ++ [W])) → (∀ k ∈ ks, 0 ≤ k.2 ∧ k.2 ≤ 5) → (∀ r ∈ X, r.length + ks.length ≤ 900) → X.length * 6 ^ ks.length ≤ 1000000 → ks ≠ [] →
    ∃ V n, S.length ≤ n ∧ V.length = n ∧ V.take S.length = S ∧ ∃ a1 b1 d1 e1, forL (gT [gN 2, gN 3]) l2__law_every (ks.map knD) [some (.d C), some v, a, b, c, d, e] U = .nx [some (.d C), some (.loc n), a1, b1, some (.loc n), d1, e1] (V ++ [.lst (rowsD (evF ks X))]) := by
  intro ks
  induction ks with
  | nil => intro v U U1 X a b c d e _ _ _ _ _ _ h; exact absurd rfl h
  | cons k ks ih =>
    intro v U U1 X a b c d e f hU na hw hr hx _
    have hk := hw k (by simp)
    have p1 : 1 ≤ 6 ^ ks.length := Nat.one_le_pow _ _ (by omega)
    have hx' : X.length * 6 * 6 ^ ks.length ≤ 1000000 := by
      rw [List.length_cons, Nat.pow_succ, Nat.mul_comm (6 ^ ks.length), ← Nat.mul_assoc] at hx
      exact hx
    have hx6 : X.length * 6 ≤ 1000000 := Nat.le_trans (Nat.le_mul_of_pos_right _ p1) hx'
    obtain ⟨a', st⟩ := every_kd (C := C) (l := k.1) (a := c) (b := d) (c := e) f hU hk (fun r hr' => by have := hr r hr'; omega) (by omega) na
    have fl : forL (gT [gN 2, gN 3]) l2__law_every ((k :: ks).map knD) [some (.d C), some v, a, b, c, d, e] U = forL (gT [gN 2, gN 3]) l2__law_every (ks.map knD) [some (.d C), some (.loc U1.length), some (.d (.int k.1)), some (.d (.int k.2)), some (.loc U1.length), a', e] (U1 ++ [.lst (rowsD (X.flatMap (lon k.2)))]) := by
      rw [List.map_cons, ap_forL1]
      have tg : gT [gN 2, gN 3] (.d (knD k)) [some (.d C), some v, a, b, c, d, e] = some [some (.d C), some v, some (.d (.int k.1)), some (.d (.int k.2)), c, d, e] := rfl
      rw [tg]
      simp only
      rw [st]
    rw [fl]
    by_cases q : ks = []
    · subst q
      exact ⟨U1, U1.length, f.le, rfl, f.tk, _, _, _, _, rfl⟩
    · have xl : (X.flatMap (lon k.2)).length ≤ X.length * 6 := by
        have : ∀ Y : List (List Int), (Y.flatMap (lon k.2)).length ≤ Y.length * 6 := by
          intro Y
          induction Y with
          | nil => simp
          | cons y Y ih => rw [List.flatMap_cons, List.length_append, lon, List.length_map, List.length_range, List.length_cons, Nat.add_mul]; omega
        exact this X
      have g1 : (U1 ++ [MO.lst (rowsD (X.flatMap (lon k.2)))])[U1.length]? = some (.lst (rowsD (X.flatMap (lon k.2)))) := by simp
      exact ih (.loc U1.length) (U1 ++ [.lst (rowsD (X.flatMap (lon k.2)))]) (U1 ++ [.fz (.list (rowsD (X.flatMap (lon k.2))))]) (X.flatMap (lon k.2)) _ _ _ _ _
        ⟨by simp [fr], by have := f.tk; have := f.le; rw [List.take_append_of_le_length f.le]; exact f.tk, by have := f.le; simp; omega⟩
        (by simp) (fun W => by simp [fr]) (fun k' hk' => hw k' (by simp [hk'])) (fun r hr' => by
          obtain ⟨s, hs, hr'⟩ := List.mem_flatMap.mp hr'
          obtain ⟨i, _, rfl⟩ := List.mem_map.mp hr'
          have := hr s hs
          simp at *
          omega)
        (Nat.le_trans (Nat.mul_le_mul_right _ xl) hx') q
theorem every_ok {ks : List Kd} (h : OkD ks) (S : Store) : g__law_every [.d (knsD ks)] S = .ok (.loc S.length) (S ++ [.lst (rowsD (evr ks))]) := by
  have l1 := h.k.l1
  have l4 := h.l4
  have p : 6 ^ ks.length ≤ 6 ^ 4 := Nat.pow_le_pow_right (by omega) l4
  obtain ⟨V, n, h1, h2, h3, a, b, d, e, fl⟩ := every_all (S := S) (C := knsD ks) ks (.d (.list [.tuple []])) S S [[]] none none none none none ⟨rfl, List.take_length, Nat.le_refl _⟩ rfl (fun W => rfl) (fun k hk => ⟨(h.k.al k hk).2.1, h.w5 k hk⟩) (fun r hr => by simp at hr; subst hr; simp; omega) (by simp; omega) (by intro q; subst q; simp at l1)
  have it : iSeq (eVar 0) [some (.d (knsD ks)), some (.d (.list [.tuple []])), none, none, none, none, none] S = .ok (ks.map knD) S := by
    simp [knsD, seqOf]
  have s0 : sSet 1 (eLst false (aCons (eTup aNil) aNil)) [some (.d (knsD ks)), none, none, none, none, none, none] S = .nx [some (.d (knsD ks)), some (.d (.list [.tuple []])), none, none, none, none, none] S := by
    simp [frs]
  have key : b__law_every [some (.d (knsD ks)), none, none, none, none, none, none] S = .ret (.loc n) (V ++ [.lst (rowsD (evr ks))]) := by
    rw [b__law_every, ap_sCons, s0, seq_nx, ap_sCons, ap_sFor, it, st_ok, fl, seq_nx]
    simp [evr]
  have e0 : g__law_every [.d (knsD ks)] S = leave S.length (.loc n) (V ++ [.lst (rowsD (evr ks))]) := by
    unfold g__law_every
    rw [ap_fnOf]
    rw [show ([Vl.d (knsD ks)].map some ++ List.replicate (7 - [Vl.d (knsD ks)].length) none) = [some (.d (knsD ks)), none, none, none, none, none, none] from rfl, key]
  rw [e0]
  unfold leave
  have nn : ¬ n < S.length := by omega
  have g1 : (V ++ [MO.lst (rowsD (evr ks))])[n]? = some (.lst (rowsD (evr ks))) := by subst h2; simp
  simp only [if_neg nn, g1]
  rw [List.take_append_of_le_length (by omega), h3]
set_option exponentiation.threshold 5000
theorem iRange_2 {fs : Av} {ρ : Env} {S S1 : Store} {i j : Int} (h : fs ρ S = .ok [.d (.int i), .d (.int j)] S1) (h0 : -1000000 ≤ i ∧ i < 1000000) (h1 : -1000000 ≤ j ∧ j < 1000000) : iRange fs ρ S = .ok (rangeD i j) S1 := by
  have a : -(2 ^ 62) ≤ i ∧ i < 2 ^ 62 ∧ -(2 ^ 62) ≤ j ∧ j < 2 ^ 62 := by omega
  unfold iRange
  rw [h, bind_ok]
  simp only [view_d, if_pos a]
theorem oIx_at {v : Vl} {ds : List D} {i : Int} {d : D} {S : Store} (h : view S v = some (.list ds)) (e : atI ds i = some d) : oIx v (.d (.int i)) S = .ok (.d d) S := by
  simp only [oIx, h, view_d, e]
  rfl
section
variable {C : D} {v : Vl} {l m z : Int} {u : Nat} {U : Store} {w : Option Vl} {Y A : List Int}
theorem wy_st (hu : U.length = u) (hv : ∀ W, view (U ++ [W]) v = some (.list (iD Y))) {t : Int} {tn sn : Nat} (ht : t = (tn : Int)) (hs : t - l * m = (sn : Int)) (h1 : tn < A.length) (h2 : sn < Y.length) (hm : mulOk l m = true) :
    l0_ways_to [some (.d C), some (.d (.int z)), some v, some (.d (.int l)), w, some (.loc u), some (.d (.int m)), some (.d (.int t))] (U ++ [.lst (iD A)]) = .nx [some (.d C), some (.d (.int z)), some v, some (.d (.int l)), w, some (.loc u), some (.d (.int m)), some (.d (.int t))] (U ++ [.lst (iD (A.set tn (atN A tn + atN Y sn)))]) := by
  have g1 : (U ++ [MO.lst (iD A)])[u]? = some (.lst (iD A)) := by subst hu; simp
  have st : ∀ X, (U ++ [MO.lst (iD A)]).set u X = U ++ [X] := fun X => by subst hu; simp
  have a1 : atI (iD A) t = some (.int (atN A tn)) := by rw [ht]; exact at_iD h1
  have a2 : atI (iD Y) (t - l * m) = some (.int (atN Y sn)) := by rw [hs]; exact at_iD h2
  have j1 : ixN (iD A).length t = some tn := by rw [ht, iD_len]; exact ixN_ok h1
  have v1 := hv (.lst (iD A))
  have e1 := getL_ok (v := .d (.int t)) (S := U ++ [.lst (iD A)]) rfl g1 a1
  have e2 := putAdd_ok (v := .d (.int t)) (a := atN A tn) (b := atN Y sn) (ρ := [some (.d C), some (.d (.int z)), some v, some (.d (.int l)), w, some (.loc u), some (.d (.int m)), some (.d (.int t))]) (S := U ++ [.lst (iD A)]) rfl g1 j1
  have e3 := oIx_at v1 a2
  rw [iD_set] at e2
  rw [st] at e2
  generalize U ++ [MO.lst (iD A)] = S1 at *
  have e4 : eBin oIx (eVar 2) (eBin oSub (eVar 7) (eBin (oMul false) (eVar 3) (eVar 6))) [some (.d C), some (.d (.int z)), some v, some (.d (.int l)), w, some (.loc u), some (.d (.int m)), some (.d (.int t))] S1 = .ok (.d (.int (atN Y sn))) S1 := by
    simp [oMul_int, hm, e3]
  rw [l0_ways_to, ap_sAddPut]
  rw [show eVar 5 [some (.d C), some (.d (.int z)), some v, some (.d (.int l)), w, some (.loc u), some (.d (.int m)), some (.d (.int t))] S1 = .ok (.loc u) S1 from rfl, st_ok, show eVar 7 [some (.d C), some (.d (.int z)), some v, some (.d (.int l)), w, some (.loc u), some (.d (.int m)), some (.d (.int t))] S1 = .ok (.d (.int t)) S1 from rfl, st_ok, e1, st_ok, e4, st_ok, e2]
def addF (Y : List Int) (k : Nat) : List Nat → List Int → List Int
  | [], A => A
  | t :: ts, A => addF Y k ts (A.set t (atN A t + atN Y (t - k)))
theorem addF_len {k : Nat} : ∀ (ts : List Nat) (A : List Int), (addF Y k ts A).length = A.length := by
  intro ts
  induction ts with
  | nil => intro A; rfl
  | cons t ts ih => intro A; rw [addF, ih]; simp
theorem addF_at {k : Nat} : ∀ (ts : List Nat) (A : List Int), ts.Nodup → (∀ t ∈ ts, t < A.length) → ∀ j, atN (addF Y k ts A) j = if j ∈ ts then atN A j + atN Y (j - k) else atN A j := by
  intro ts
  induction ts with
  | nil => intro A _ _ j; simp [addF]
  | cons t ts ih =>
    intro A nd h j
    rw [List.nodup_cons] at nd
    have ht := h t (by simp)
    rw [addF, ih _ nd.2 (fun s hs => by have := h s (by simp [hs]); simpa using this) j]
    rw [at_set ht]
    by_cases e : t = j
    · subst e
      simp [nd.1]
    · have : (j ∈ t :: ts) ↔ j ∈ ts := by simp [Ne.symm e]
      by_cases q : j ∈ ts
      · simp [q, e]
      · simp [q, e, Ne.symm e]
theorem wy_in (hu : U.length = u) (hv : ∀ W, view (U ++ [W]) v = some (.list (iD Y))) {k : Nat} (hk : l * m = (k : Int)) (hm : mulOk l m = true) : ∀ (ts : List Nat) (A : List Int) (x : Option Vl), (∀ t ∈ ts, k ≤ t ∧ t < A.length ∧ t < Y.length) →
    ∃ x', forL (gN 7) l0_ways_to (iD (ts.map fun (t : Nat) => (t : Int))) [some (.d C), some (.d (.int z)), some v, some (.d (.int l)), w, some (.loc u), some (.d (.int m)), x] (U ++ [.lst (iD A)]) = .nx [some (.d C), some (.d (.int z)), some v, some (.d (.int l)), w, some (.loc u), some (.d (.int m)), x'] (U ++ [.lst (iD (addF Y k ts A))]) := by
  intro ts
  induction ts with
  | nil => exact fun A x _ => ⟨x, rfl⟩
  | cons t ts ih =>
    intro A x h
    obtain ⟨h1, h2, h3⟩ := h t (by simp)
    have st := wy_st (C := C) (z := z) (l := l) (m := m) (w := w) (A := A) hu hv (t := (t : Int)) (tn := t) (sn := t - k) rfl (by omega) h2 (by omega) hm
    obtain ⟨x', e⟩ := ih (A.set t (atN A t + atN Y (t - k))) (some (.d (.int (t : Int)))) (fun s hs => by have := h s (by simp [hs]); simpa using this)
    refine ⟨x', ?_⟩
    rw [show iD ((t :: ts).map fun (t : Nat) => (t : Int)) = .int (t : Nat) :: iD (ts.map fun (t : Nat) => (t : Int)) from rfl, ap_forL1, ap_gN]
    simp only [List.set_cons_succ, List.set_cons_zero]
    rw [st]
    exact e
theorem range_D {a n : Nat} : rangeD (a : Int) (n : Int) = iD ((List.range' a (n - a)).map fun (t : Nat) => (t : Int)) := by
  unfold rangeD iD
  rw [List.map_map, show ((n : Int) - (a : Int)).toNat = n - a by omega, List.range'_eq_map_range, List.map_map]
  refine List.map_congr_left fun i _ => ?_
  simp
theorem wy_pass {X : List Int} {zn n k : Nat} (hX : ∀ x ∈ X, 0 ≤ x) (hu : U.length = u) (hv : ∀ W, view (U ++ [W]) v = some (.list (iD (tabN zn X)))) (hz : z = (zn : Int)) (hz2 : zn ≤ 4000) (hm : m = (n : Int)) (hk : l * m = (k : Int)) (hk2 : k ≤ 5000) (ok : mulOk l m = true) (x : Option Vl) :
    ∃ x', l1_ways_to [some (.d C), some (.d (.int z)), some v, some (.d (.int l)), w, some (.loc u), some (.d (.int m)), x] (U ++ [.lst (iD (partN zn X l n))]) = .nx [some (.d C), some (.d (.int z)), some v, some (.d (.int l)), w, some (.loc u), some (.d (.int m)), x'] (U ++ [.lst (iD (partN zn X l (n + 1)))]) := by
  obtain ⟨x', e⟩ := wy_in (C := C) (z := z) (w := w) hu hv hk ok (List.range' k (zn + 1 - k)) (partN zn X l n) x (fun t ht => by
    rw [List.mem_range'] at ht
    obtain ⟨i, h1, h2⟩ := ht
    rw [part_len, tab_len]
    omega)
  have eq : addF (tabN zn X) k (List.range' k (zn + 1 - k)) (partN zn X l n) = partN zn X l (n + 1) := by
    apply List.ext_getElem
    · rw [addF_len, part_len, part_len]
    · intro j h1 h2
      rw [← atN_lt h1, ← atN_lt h2]
      rw [part_len] at h2
      rw [addF_at _ _ (List.nodup_range') (fun t ht => by
        rw [List.mem_range'] at ht
        obtain ⟨i, h1, h2⟩ := ht
        rw [part_len]
        omega) j, part_at h2, part_at h2, sumR]
      rw [hm] at hk
      by_cases q : j ∈ List.range' k (zn + 1 - k)
      · rw [if_pos q]
        rw [List.mem_range'] at q
        obtain ⟨i, h3, h4⟩ := q
        rw [tab_at (by omega)]
        have : ((j - k : Nat) : Int) = (j : Int) - l * (n : Int) := by omega
        rw [this]
        omega
      · rw [if_neg q]
        have : ¬ (k ≤ j) := fun le => q (by rw [List.mem_range']; exact ⟨j - k, by omega, by omega⟩)
        rw [cnt_neg hX (t := (j : Int) - l * (n : Int)) (by omega)]
        omega
  rw [eq] at e
  refine ⟨x', ?_⟩
  generalize eS : U ++ [MO.lst (iD (partN zn X l n))] = S1 at *
  have it : iRange (aCons (eBin (oMul false) (eVar 3) (eVar 6)) (aCons (eBin (oAdd false) (eVar 1) (eD (.int 1))) aNil)) [some (.d C), some (.d (.int z)), some v, some (.d (.int l)), w, some (.loc u), some (.d (.int m)), x] S1 = .ok (rangeD (l * m) (z + 1)) S1 := by
    refine iRange_2 ?_ (by omega) (by omega)
    simp [oMul_int, ok]
  have rg : rangeD (l * m) (z + 1) = iD ((List.range' k (zn + 1 - k)).map fun (t : Nat) => (t : Int)) := by
    rw [hk, hz, show ((zn : Int) + 1) = ((zn + 1 : Nat) : Int) by omega]
    exact range_D
  rw [l1_ways_to, ap_sFor, it, st_ok, rg, e]
theorem wy_all {X : List Int} {zn : Nat} (hX : ∀ x ∈ X, 0 ≤ x) (hu : U.length = u) (hv : ∀ W, view (U ++ [W]) v = some (.list (iD (tabN zn X)))) (hz : z = (zn : Int)) (hz2 : zn ≤ 4000) (hl : 1 ≤ l ∧ l ≤ 100) : ∀ (c n : Nat) (x y : Option Vl), n + c ≤ 41 →
    ∃ x' y', forL (gN 6) l1_ways_to (iD ((List.range' n c).map fun (t : Nat) => (t : Int))) [some (.d C), some (.d (.int z)), some v, some (.d (.int l)), w, some (.loc u), x, y] (U ++ [.lst (iD (partN zn X l n))]) = .nx [some (.d C), some (.d (.int z)), some v, some (.d (.int l)), w, some (.loc u), x', y'] (U ++ [.lst (iD (partN zn X l (n + c)))]) := by
  intro c
  induction c with
  | zero => exact fun n x y _ => ⟨x, y, rfl⟩
  | succ c ih =>
    intro n x y h
    have ok : mulOk l (n : Int) = true := mulOk_l (by omega)
    have p0 : 0 ≤ l * (n : Int) := Int.mul_nonneg (by omega) (by omega)
    have p1 : l * (n : Int) ≤ 100 * 41 := Int.mul_le_mul (by omega) (by omega) (by omega) (by omega)
    obtain ⟨y1, st⟩ := wy_pass (C := C) (z := z) (l := l) (m := (n : Int)) (w := w) (n := n) (k := (l * (n : Int)).toNat) hX hu hv hz hz2 rfl (by omega) (by omega) ok y
    obtain ⟨x', y', e⟩ := ih (n + 1) (some (.d (.int (n : Int)))) y1 (by omega)
    refine ⟨x', y', ?_⟩
    rw [List.range'_succ, show iD ((n :: List.range' (n + 1) c).map fun (t : Nat) => (t : Int)) = .int (n : Nat) :: iD ((List.range' (n + 1) c).map fun (t : Nat) => (t : Int)) from rfl, ap_forL1, ap_gN]
    simp only [List.set_cons_succ, List.set_cons_zero]
    rw [st]
    rw [show n + 1 + c = n + (c + 1) by omega] at e
    exact e
theorem wy_kd {X : List Int} {zn : Nat} {wn : Nat} {a b c : Option Vl} (hX : ∀ x ∈ X, 0 ≤ x) (hv : ∀ W, view (U ++ [W]) v = some (.list (iD (tabN zn X)))) (hz : z = (zn : Int)) (hz2 : zn ≤ 4000) (hl : 1 ≤ l ∧ l ≤ 100) (hw : wn ≤ 40) :
    ∃ b' c', l2_ways_to [some (.d C), some (.d (.int z)), some v, some (.d (.int l)), some (.d (.int (wn : Nat))), a, b, c] U = .nx [some (.d C), some (.d (.int z)), some (.loc U.length), some (.d (.int l)), some (.d (.int (wn : Nat))), some (.loc U.length), b', c'] (U ++ [.lst (iD (tabN zn (stepN (l, (wn : Int)) X)))]) := by
  obtain ⟨b', c', e⟩ := wy_all (C := C) (w := some (.d (.int (wn : Nat)))) hX rfl hv hz hz2 hl (wn + 1) 0 b c (by omega)
  refine ⟨b', c', ?_⟩
  have pa := part_all (z := zn) (X := X) (k := (l, (wn : Int)))
  rw [show ((l, (wn : Int)) : Kd).1 = l from rfl, show (((l, (wn : Int)) : Kd).2 + 1).toNat = wn + 1 by show ((wn : Int) + 1).toNat = wn + 1; omega] at pa
  rw [Nat.zero_add, pa, part_0] at e
  have mu : oMul true (.d (.list [.int 0])) (.d (.int (z + 1))) U = .ok (.loc U.length) (U ++ [.lst (iD (List.replicate (zn + 1) 0))]) := by
    have h1 : -(2 ^ 63) ≤ z + 1 ∧ z + 1 < 2 ^ 63 ∧ [PyData.int 0].length * (z + 1).toNat ≤ sizeLine := ⟨by omega, by omega, line16 (by simp; omega)⟩
    simp only [oMul, view_d, if_pos h1]
    rw [show (List.replicate (z + 1).toNat [PyData.int 0]).flatten = iD (List.replicate (zn + 1) 0) by
      rw [show (z + 1).toNat = zn + 1 by omega]
      unfold iD
      rw [List.map_replicate]
      generalize zn + 1 = q
      induction q with
      | zero => rfl
      | succ q ih => rw [List.replicate_succ, List.flatten_cons, ih, List.replicate_succ]; rfl]
    rfl
  have s1 : sSet 5 (eBin (oMul true) (eLst false (aCons (eD (.int 0)) aNil)) (eBin (oAdd false) (eVar 1) (eD (.int 1)))) [some (.d C), some (.d (.int z)), some v, some (.d (.int l)), some (.d (.int (wn : Nat))), a, b, c] U = .nx [some (.d C), some (.d (.int z)), some v, some (.d (.int l)), some (.d (.int (wn : Nat))), some (.loc U.length), b, c] (U ++ [.lst (iD (List.replicate (zn + 1) 0))]) := by
    simp [frs, mu]
  have it : iRange (aCons (eBin (oAdd false) (eVar 4) (eD (.int 1))) aNil) [some (.d C), some (.d (.int z)), some v, some (.d (.int l)), some (.d (.int (wn : Nat))), some (.loc U.length), b, c] (U ++ [.lst (iD (List.replicate (zn + 1) 0))]) = .ok (rangeD 0 ((wn : Int) + 1)) (U ++ [.lst (iD (List.replicate (zn + 1) 0))]) := iRange_1 (by simp) (by omega) (by omega)
  have rg : rangeD 0 ((wn : Int) + 1) = iD ((List.range' 0 (wn + 1)).map fun (t : Nat) => (t : Int)) := by
    have := range_D (a := 0) (n := wn + 1)
    rw [show ((wn : Int) + 1) = ((wn + 1 : Nat) : Int) by omega]
    exact this
  rw [l2_ways_to, ap_sCons, s1, seq_nx, ap_sCons, ap_sFor, it, st_ok, rg, e, seq_nx]
  rfl
end
set_option exponentiation.threshold 5000
theorem ways_all {S : Store} {C : D} {z : Int} {zn : Nat} (hz : z = (zn : Int)) (hz2 : zn ≤ 4000) : ∀ (ks : List Kd) (v : Vl) (U : Store) (X : List Int) (a b c d e : Option Vl), S.length ≤ U.length → U.take S.length = S → (∀ W, view (U ++ [W]) v = some (.list (iD (tabN zn X)))) → (∀ x ∈ X, 0 ≤ x) → (∀ k ∈ ks, (1 ≤ k.1 ∧ k.1 ≤ 100) ∧ (0 ≤ k.2 ∧ k.2 ≤ 40)) → ks ≠ [] →
    ∃ V n, S.length ≤ n ∧ V.length = n ∧ V.take S.length = S ∧ ∃ a1 b1 d1 e1, forL (gT [gN 3, gN 4]) l2_ways_to (ks.map knD) [some (.d C), some (.d (.int z)), some v, a, b, c, d, e] U = .nx [some (.d C), some (.d (.int z)), some (.loc n), a1, b1, some (.loc n), d1, e1] (V ++ [.lst (iD (tabN zn (nsF ks X)))]) := by
  intro ks
  induction ks with
  | nil => intro v U X a b c d e _ _ _ _ _ h; exact absurd rfl h
  | cons k ks ih =>
    intro v U X a b c d e h1 h2 hv hX hk _
    obtain ⟨kl, kw⟩ := hk k (by simp)
    obtain ⟨l, w⟩ := k
    obtain ⟨wn, rfl⟩ : ∃ wn : Nat, w = wn := ⟨w.toNat, by simp at kw; omega⟩
    obtain ⟨b', c', st⟩ := wy_kd (C := C) (z := z) (l := l) (v := v) (U := U) (a := c) (b := d) (c := e) hX hv hz hz2 kl (show wn ≤ 40 by simp at kw; omega)
    have fl : forL (gT [gN 3, gN 4]) l2_ways_to (((l, (wn : Int)) :: ks).map knD) [some (.d C), some (.d (.int z)), some v, a, b, c, d, e] U = forL (gT [gN 3, gN 4]) l2_ways_to (ks.map knD) [some (.d C), some (.d (.int z)), some (.loc U.length), some (.d (.int l)), some (.d (.int (wn : Nat))), some (.loc U.length), b', c'] (U ++ [.lst (iD (tabN zn (stepN (l, (wn : Int)) X)))]) := by
      rw [List.map_cons, ap_forL1]
      have tg : gT [gN 3, gN 4] (.d (knD (l, (wn : Int)))) [some (.d C), some (.d (.int z)), some v, a, b, c, d, e] = some [some (.d C), some (.d (.int z)), some v, some (.d (.int l)), some (.d (.int (wn : Nat))), c, d, e] := rfl
      rw [tg]
      simp only
      rw [st]
    rw [fl]
    by_cases q : ks = []
    · subst q
      exact ⟨U, U.length, h1, rfl, h2, _, _, _, _, rfl⟩
    · exact ih (.loc U.length) (U ++ [.lst (iD (tabN zn (stepN (l, (wn : Int)) X)))]) (stepN (l, (wn : Int)) X) _ _ _ _ _ (by simp; omega) (by rw [List.take_append_of_le_length h1]; exact h2) (fun W => by simp [view]) (step_nn (by simp at kl ⊢; omega) hX) (fun k' hk' => hk k' (by simp [hk'])) q
theorem add_lists {xs ys : List D} {S : Store} (h : xs.length + ys.length ≤ 16000000) : oAdd false (.d (.list xs)) (.d (.list ys)) S = .ok (.d (.list (xs ++ ys))) S := by
  have sz : xs.length + ys.length ≤ sizeLine := line16 h
  simp [oAdd, sz]
theorem mul_zero {z : Int} {zn : Nat} {S : Store} (hz : z = (zn : Int)) (hz2 : zn ≤ 4000) : oMul false (.d (.list [.int 0])) (.d (.int z)) S = .ok (.d (.list (iD (List.replicate zn 0)))) S := by
  have h1 : -(2 ^ 63) ≤ z ∧ z < 2 ^ 63 ∧ [PyData.int 0].length * z.toNat ≤ sizeLine := ⟨by omega, by omega, line16 (by simp; omega)⟩
  simp only [oMul, view_d, if_pos h1]
  rw [show (List.replicate z.toNat [PyData.int 0]).flatten = iD (List.replicate zn 0) by
    rw [show z.toNat = zn by omega]
    unfold iD
    rw [List.map_replicate]
    generalize zn = q
    induction q with
    | zero => rfl
    | succ q ih => rw [List.replicate_succ, List.flatten_cons, ih, List.replicate_succ]; rfl]
  rfl
def tabK (ks : List Kd) (zn : Nat) : List Int := tabN zn (nsF ks [0])
theorem ways_ok {ks : List Kd} {z : Int} {zn : Nat} (h : OkK ks) (hz : z = (zn : Int)) (hz2 : zn ≤ 4000) (S : Store) : g_ways_to [.d (knsD ks), .d (.int z)] S = .ok (.loc S.length) (S ++ [.lst (iD (tabK ks zn))]) := by
  have l1 := h.l1
  obtain ⟨V, n, h1, h2, h3, a, b, d, e, fl⟩ := ways_all (S := S) (C := knsD ks) hz hz2 ks (.d (.list (iD (tabN zn [0])))) S [0] none none none none none (Nat.le_refl _) List.take_length (fun W => rfl) (by simp) (fun k hk => h.al k hk) (by intro q; subst q; simp at l1)
  have it : iSeq (eVar 0) [some (.d (knsD ks)), some (.d (.int z)), some (.d (.list (iD (tabN zn [0])))), none, none, none, none, none] S = .ok (ks.map knD) S := by
    simp [knsD, seqOf]
  have mz := mul_zero (S := S) hz hz2
  have ad := add_lists (xs := [PyData.int 1]) (ys := iD (List.replicate zn 0)) (S := S) (by simp [iD_len]; omega)
  rw [show [PyData.int 1] ++ iD (List.replicate zn 0) = iD (tabN zn [0]) by rw [tab_0]; rfl] at ad
  generalize tabN zn [0] = T0 at *
  have s0 : sSet 2 (eBin (oAdd false) (eLst false (aCons (eD (.int 1)) aNil)) (eBin (oMul false) (eLst false (aCons (eD (.int 0)) aNil)) (eVar 1))) [some (.d (knsD ks)), some (.d (.int z)), none, none, none, none, none, none] S = .nx [some (.d (knsD ks)), some (.d (.int z)), some (.d (.list (iD T0))), none, none, none, none, none] S := by
    simp [mz, ad]
  have key : b_ways_to [some (.d (knsD ks)), some (.d (.int z)), none, none, none, none, none, none] S = .ret (.loc n) (V ++ [.lst (iD (tabK ks zn))]) := by
    rw [b_ways_to, ap_sCons, s0, seq_nx, ap_sCons, ap_sFor, it, st_ok, fl, seq_nx]
    rfl
  have e0 : g_ways_to [.d (knsD ks), .d (.int z)] S = leave S.length (.loc n) (V ++ [.lst (iD (tabK ks zn))]) := by
    unfold g_ways_to
    rw [ap_fnOf]
    rw [show ([Vl.d (knsD ks), Vl.d (.int z)].map some ++ List.replicate (8 - [Vl.d (knsD ks), Vl.d (.int z)].length) none) = [some (.d (knsD ks)), some (.d (.int z)), none, none, none, none, none, none] from rfl, key]
  rw [e0]
  unfold leave
  have nn : ¬ n < S.length := by omega
  have g1 : (V ++ [MO.lst (iD (tabK ks zn))])[n]? = some (.lst (iD (tabK ks zn))) := by subst h2; simp
  simp only [if_neg nn, g1]
  rw [List.take_append_of_le_length (by omega), h3]
theorem ns_nn : ∀ (ks : List Kd) (X : List Int), (∀ k ∈ ks, 0 ≤ k.1) → (∀ x ∈ X, 0 ≤ x) → ∀ x ∈ nsF ks X, 0 ≤ x := by
  intro ks
  induction ks with
  | nil => exact fun X _ h => h
  | cons k ks ih => exact fun X hk h => ih _ (fun q hq => hk q (by simp [hq])) (step_nn (hk k (by simp)) h)
theorem OkK.ns {ks : List Kd} (h : OkK ks) : ∀ x ∈ nsF ks [0], 0 ≤ x := ns_nn ks [0] (fun k hk => by have := (h.al k hk).1; omega) (by simp)
def goodR (ks : List Kd) (z : Int) : List (List Int) := (evr ks).filter fun f => decide (noi ks f ≤ z)
theorem good_noi (ks : List Kd) (z : Int) : (goodR ks z).map (noi ks) = (nsF ks [0]).filter fun n => decide (n ≤ z) := by
  unfold goodR
  rw [← evr_ns, List.filter_map]
  rfl
theorem zero_good {ks : List Kd} (h : OkK ks) {z : Int} (h0 : 0 ≤ z) : List.replicate ks.length 0 ∈ goodR ks z := by
  unfold goodR
  rw [List.mem_filter, evr_mem, rw_ix]
  refine ⟨⟨by simp, fun i hi => ?_⟩, by rw [noi_rep]; simpa using h0⟩
  rw [at_rep]
  exact ⟨by omega, (h.wa hi).1⟩
def loudK (ks : List Kd) (z : Int) : Int := mxL ((goodR ks z).map (noi ks))
theorem loud_hits {ks : List Kd} (h : OkK ks) {zn : Nat} : hitsN zn (nsF ks [0]) ≠ [] ∧ mxL (hitsN zn (nsF ks [0])) = loudK ks (zn : Int) := by
  have hm : ∀ t, t ∈ hitsN zn (nsF ks [0]) ↔ t ∈ (goodR ks (zn : Int)).map (noi ks) := fun t => by rw [good_noi]; exact hits_mem h.ns
  have g := zero_good h (z := (zn : Int)) (by omega)
  have ne : hitsN zn (nsF ks [0]) ≠ [] := by
    intro e
    have := (hm _).mpr (List.mem_map_of_mem g)
    rw [e] at this
    cases this
  exact ⟨ne, mx_same hm ne⟩
theorem many_sum {ks : List Kd} (h : OkK ks) {zn : Nat} : (tabK ks zn).sum = ((goodR ks (zn : Int)).length : Int) := by
  unfold tabK
  rw [tab_sum zn h.ns, ← good_noi, List.length_map]
theorem enum_tab {zn : Nat} {X : List Int} : enumD (iD (tabN zn X)) = (List.range (zn + 1)).map fun (i : Nat) => .tuple [.int (i : Nat), .int ((X.count (i : Int) : Nat) : Int)] := by
  apply List.ext_getElem
  · simp [enumD, iD_len, tab_len]
  · intro i h1 h2
    have hi : i < zn + 1 := by simpa [enumD, iD_len, tab_len] using h1
    simp [enumD, iD, tabN, hi]
section
variable {ks : List Kd} {z : Int} {zn : Nat}
theorem quietf_core {C z Q : D} {S : Store} (hb : g_check_both [.d C, .d z] S = .ok (.d .none) S) (hq : g_raw_quiet [.d C, .d z] S = .ok (.d Q) S) : g_quiet_flights [.d C, .d z] S = .ok (.d Q) S := by
  simp [g_quiet_flights, ap_fnOf, b_quiet_flights, List.replicate, hb, hq, leave]
theorem quiet_ok (h : OkK ks) (hz : 0 ≤ z ∧ z ≤ 4000) (S : Store) : g_quiet_flights [.d (knsD ks), .d (.int z)] S = .ok (.d (rwD (quiet ks z))) S := quietf_core (h.both hz S) (raw_quiet_ok h z S)
theorem many_ok (h : OkK ks) (hz : z = (zn : Int)) (hz2 : zn ≤ 4000) (S : Store) : g_ways_many [.d (knsD ks), .d (.int z)] S = .ok (.d (.int ((goodR ks z).length : Nat))) S := by
  have b := h.both (z := z) ⟨by omega, by omega⟩ S
  have w := ways_ok h hz hz2 S
  have sm := sumX_view (v := .loc S.length) (ns := tabK ks zn) (S := S ++ [.lst (iD (tabK ks zn))]) (by simp [view])
  rw [many_sum h, ← hz] at sm
  generalize knsD ks = C at *
  have key : b_ways_many [some (.d C), some (.d (.int z))] S = .ret (.d (.int ((goodR ks z).length : Nat))) (S ++ [.lst (iD (tabK ks zn))]) := by
    rw [b_ways_many, ap_sCons]
    conv => lhs; arg 1; simp [b]
    rw [seq_nx]
    simp [w, sm]
  rw [g_ways_many]
  have := fn_ret (n := 2) (sb := b_ways_many) (vs := [.d C, .d (.int z)]) key
  rw [this]
  simp
theorem loud_lc (h : OkK ks) (hz2 : zn ≤ 4000) (C : D) (S : Store) : lcL (gT [gN 2, gN 3]) l1_loudest l0_loudest [some (.d C), some (.d (.int z)), none, none] (enumD (iD (tabK ks zn))) [] S = .ok (iD (hitsN zn (nsF ks [0]))) S := by
  unfold tabK
  rw [enum_tab]
  have lc := lcB_fm (tg := gT [gN 2, gN 3]) (t := l1_loudest) (f := l0_loudest) (ρ := [some (.d C), some (.d (.int z)), none, none]) (S := S) (fun (i : Nat) => .tuple [.int (i : Nat), .int (((nsF ks [0]).count (i : Int) : Nat) : Int)]) (fun (i : Nat) => decide (0 < (nsF ks [0]).count (i : Int))) (fun (i : Nat) => .int (i : Nat)) (List.range (zn + 1)) (fun i hi => ⟨[some (.d C), some (.d (.int z)), some (.d (.int (i : Nat))), some (.d (.int (((nsF ks [0]).count (i : Int) : Nat) : Int)))], rfl, by
    simp [l1_loudest], by simp [l0_loudest]⟩) (by simp; omega)
  rw [show ((List.range (zn + 1)).filter fun (i : Nat) => decide (0 < (nsF ks [0]).count (i : Int))).map (fun (i : Nat) => PyData.int (i : Nat)) = iD (hitsN zn (nsF ks [0])) by unfold hitsN iD; rw [List.map_map]; rfl] at lc
  exact lc
theorem loudest_ok (h : OkK ks) (hz : z = (zn : Int)) (hz2 : zn ≤ 4000) (S : Store) : g_loudest [.d (knsD ks), .d (.int z)] S = .ok (.d (.int (loudK ks z))) S := by
  have b := h.both (z := z) ⟨by omega, by omega⟩ S
  have w := ways_ok h hz hz2 S
  obtain ⟨h1, h2⟩ := loud_hits h (zn := zn)
  rw [← hz] at h2
  have lc := loud_lc (z := z) (zn := zn) h hz2 (knsD ks) (S ++ [.fz (.list (iD (tabK ks zn)))])
  have mx := max_of (v := .d (.list (iD (hitsN zn (nsF ks [0]))))) (F := hitsN zn (nsF ks [0])) (S := S ++ [.fz (.list (iD (tabK ks zn)))]) rfl h1
  rw [h2] at mx
  generalize knsD ks = C at *
  generalize tabK ks zn = T at *
  generalize hitsN zn (nsF ks [0]) = H at *
  have it : iEnumD (eCallN 2 g_ways_to (aCons (eVar 0) (aCons (eVar 1) aNil))) [some (.d C), some (.d (.int z)), none, none] S = .ok (enumD (iD T)) (S ++ [.fz (.list (iD T))]) := by
    simp [iEnumD, w, fr, seqOf]
  generalize enumD (iD T) = En at *
  have key : b_loudest [some (.d C), some (.d (.int z)), none, none] S = .ret (.d (.int (loudK ks z))) (S ++ [.fz (.list (iD T))]) := by
    rw [b_loudest, ap_sCons]
    conv => lhs; arg 1; simp [b]
    rw [seq_nx, ap_sRet, ap_eCall, ap_aCons, ap_eLc, it, bind_ok]
    simp [wipeE, lc, mx]
  rw [g_loudest]
  have := fn_ret (n := 4) (sb := b_loudest) (vs := [.d C, .d (.int z)]) key
  rw [this]
  simp
end
set_option exponentiation.threshold 5000
theorem iD_of : ∀ (ds : List D) {lo hi : Int}, ds.all (inI lo hi) = true → ∃ xs : List Int, ds = iD xs ∧ ∀ x ∈ xs, lo ≤ x ∧ x ≤ hi := by
  intro ds
  induction ds with
  | nil => exact fun _ => ⟨[], rfl, by simp⟩
  | cons d ds ih =>
    intro lo hi h
    rw [List.all_cons, Bool.and_eq_true] at h
    obtain ⟨xs, rfl, hx⟩ := ih h.2
    cases d with
    | int i =>
      have h1 := h.1
      simp [inI] at h1
      exact ⟨i :: xs, rfl, fun x hm => by rcases List.mem_cons.mp hm with rfl | hm; exact h1; exact hx x hm⟩
    | _ => cases h.1
def fitB (ks : List Kd) (ds : List D) : Bool := (List.zip ds ks).all fun p => inI 0 p.2.2 p.1
def ovrB (ks : List Kd) (fs : List Int) : Bool := (List.zip fs ks).any fun p => decide (p.2.2 < p.1)
def intsD (ds : List D) : List Int := ds.filterMap fun d => match d with | .int i => some i | _ => none
theorem intsD_iD (xs : List Int) : intsD (iD xs) = xs := by
  unfold intsD iD
  induction xs with
  | nil => rfl
  | cons x xs ih => simp [ih]
def flB (ks : List Kd) (z : Int) : D → Bool
  | .tuple ds => (decide ((ds.length : Int) = (ks.length : Int)) && fitB ks ds) && decide (noi ks (intsD ds) ≤ z)
  | _ => false
theorem fit_ints : ∀ (ks : List Kd) (ds : List D), ds.length = ks.length → fitB ks ds = true → (∀ k ∈ ks, k.2 ≤ 40) → ds.all (inI 0 40) = true := by
  intro ks
  induction ks with
  | nil => intro ds h _ _; cases ds with
    | nil => rfl
    | cons _ _ => simp at h
  | cons k ks ih =>
    intro ds h f hk
    cases ds with
    | nil => simp at h
    | cons d ds =>
      unfold fitB at f ih
      rw [List.zip_cons_cons, List.all_cons, Bool.and_eq_true] at f
      rw [List.all_cons, Bool.and_eq_true]
      refine ⟨?_, ih ds (by simpa using h) f.2 (fun q hq => hk q (by simp [hq]))⟩
      have a := f.1
      have := hk k (by simp)
      cases d with
      | int i => simp [inI] at a ⊢; omega
      | _ => cases a
theorem fit_ovr : ∀ (ks : List Kd) (fs : List Int), (∀ f ∈ fs, 0 ≤ f) → ovrB ks fs = !fitB ks (iD fs) := by
  intro ks
  induction ks with
  | nil => intro fs _; cases fs <;> simp [ovrB, fitB, iD]
  | cons k ks ih =>
    intro fs h
    cases fs with
    | nil => simp [ovrB, fitB, iD]
    | cons f fs =>
      have e := ih fs (fun x hx => h x (by simp [hx]))
      unfold ovrB fitB at *
      rw [show iD (f :: fs) = .int f :: iD fs from rfl, List.zip_cons_cons, List.zip_cons_cons, List.any_cons, List.all_cons, e]
      have h0 := h f (by simp)
      have : decide (k.2 < f) = !inI 0 k.2 (.int f) := by
        by_cases q : k.2 < f
        · have q2 : ¬ f ≤ k.2 := by omega
          simp [inI, h0, q, q2]
        · have q2 : f ≤ k.2 := by omega
          simp [inI, h0, q, q2]
      simp only at this ⊢
      rw [this]
      cases inI 0 k.2 (.int f) <;> simp
section
variable {ks : List Kd} {z : Int} {S : Store}
theorem zip_dk (ds : List D) (ks : List Kd) : zipD ds (ks.map knD) = (List.zip ds ks).map fun p => .tuple [p.1, knD p.2] := by
  have := zip_map (fun d : D => d) knD ds ks
  rw [List.map_id'] at this
  exact this
theorem lisint_ok (d : D) (lo hi : Int) (S : Store) : g__law_is_int [.d d, .d (.int lo), .d (.int hi)] S = .ok (.d (.bool (inI lo hi d))) S := by
  cases d with
  | int i =>
    by_cases h : lo ≤ i <;> simp [g__law_is_int, ap_fnOf, b__law_is_int, fIsi, isTy, inI, h]
  | _ => simp [g__law_is_int, ap_fnOf, b__law_is_int, fIsi, isTy, inI]
theorem lfl_lc (C : D) (zv : Option Vl) (ds : List D) (hl : ks.length ≤ 6) : lcL (gT [gN 3, gT [gN 4, gN 5]]) tYesD l0__law_is_flights [some (.d C), zv, some (.d (.tuple ds)), none, none, none] (zipD ds (ks.map knD)) [] S = .ok (((List.zip ds ks).map fun p => inI 0 p.2.2 p.1).map PyData.bool) S := by
  rw [zip_dk]
  have lc := lcL_map (tg := gT [gN 3, gT [gN 4, gN 5]]) (f := l0__law_is_flights) (ρ := [some (.d C), zv, some (.d (.tuple ds)), none, none, none]) (S := S) (fun p : D × Kd => .tuple [p.1, knD p.2]) (fun p => .bool (inI 0 p.2.2 p.1)) (List.zip ds ks) (fun p _ => ⟨_, rfl, by simp [l0__law_is_flights, lisint_ok]⟩) (by simp; omega)
  rw [List.map_map]
  exact lc
theorem lfl_core {ds Cs B : List D} {n dl kl z : Int} {c : Bool} {S : Store} (hd : (ds.length : Int) = dl) (hk : (Cs.length : Int) = kl) (lc : lcL (gT [gN 3, gT [gN 4, gN 5]]) tYesD l0__law_is_flights [some (.d (.tuple Cs)), some (.d (.int z)), some (.d (.tuple ds)), none, none, none] (zipD ds Cs) [] S = .ok B S) (al : fAll [.d (.list B)] S = .ok (.d (.bool c)) S)
    (r : dl = kl → c = true → g__law_noise [.d (.tuple Cs), .d (.tuple ds)] S = .ok (.d (.int n)) S) : g__law_is_flights [.d (.tuple Cs), .d (.int z), .d (.tuple ds)] S = .ok (.d (.bool ((decide (dl = kl) && c) && decide (n ≤ z)))) S := by
  generalize ez : zipD ds Cs = Z at *
  by_cases h : dl = kl
  · cases c with
    | true =>
      have r := r h rfl
      simp [g__law_is_flights, ap_fnOf, b__law_is_flights, List.replicate, fIsi, isTy, hd, hk, h, iZipX, ez, wipeE, lc, al, r, leave]
    | false =>
      simp [g__law_is_flights, ap_fnOf, b__law_is_flights, List.replicate, fIsi, isTy, hd, hk, h, iZipX, ez, wipeE, lc, al, leave]
  · simp [g__law_is_flights, ap_fnOf, b__law_is_flights, List.replicate, fIsi, isTy, hd, hk, h, leave]
theorem fit_D (h : OkK ks) {ds : List D} (hl : ds.length = ks.length) (f : fitB ks ds = true) : ∃ fs : List Int, ds = iD fs ∧ fs.length = ks.length ∧ (∀ x ∈ fs, 0 ≤ x ∧ x ≤ 40) := by
  obtain ⟨fs, rfl, hx⟩ := iD_of ds (fit_ints ks ds hl f fun k hk => (h.al k hk).2.2)
  exact ⟨fs, rfl, by simpa [iD_len] using hl, hx⟩
theorem law_flights_ok (h : OkK ks) (d : D) (hl : ∀ ds, d = .tuple ds → ds.length ≤ 900) (S : Store) : g__law_is_flights [.d (knsD ks), .d (.int z), .d d] S = .ok (.d (.bool (flB ks z d))) S := by
  cases d with
  | tuple ds =>
    have lc := lfl_lc (S := S) (knsD ks) (some (.d (.int z))) ds h.l2
    have al := all_bools ((List.zip ds ks).map fun p => inI 0 p.2.2 p.1) S
    rw [List.all_map] at al
    have r := lfl_core (n := noi ks (intsD ds)) (z := z) (dl := (ds.length : Int)) (kl := (ks.length : Int)) (c := fitB ks ds) rfl (by simp) lc al (fun e c => by
      obtain ⟨fs, rfl, _, _⟩ := fit_D h (by omega) c
      rw [intsD_iD]
      exact law_noise_ok h S)
    exact r
  | _ => simp [g__law_is_flights, ap_fnOf, b__law_is_flights, List.replicate, fIsi, isTy, flB, leave]
theorem pfl_lc (C : D) (zv : Option Vl) (fs : List Int) (hl : ks.length ≤ 6) : lcL (gT [gN 3, gT [gN 4, gN 5]]) tYesD l0_is_flights [some (.d C), zv, some (.d (.tuple (iD fs))), none, none, none] (zipD (iD fs) (ks.map knD)) [] S = .ok (((List.zip fs ks).map fun p => decide (p.2.2 < p.1)).map PyData.bool) S := by
  rw [show zipD (iD fs) (ks.map knD) = (List.zip fs ks).map fun p => .tuple [.int p.1, knD p.2] from zip_map PyData.int knD fs ks]
  have lc := lcL_map (tg := gT [gN 3, gT [gN 4, gN 5]]) (f := l0_is_flights) (ρ := [some (.d C), zv, some (.d (.tuple (iD fs))), none, none, none]) (S := S) (fun p : Int × Kd => .tuple [.int p.1, knD p.2]) (fun p => .bool (decide (p.2.2 < p.1))) (List.zip fs ks) (fun p _ => ⟨_, rfl, by simp [l0_is_flights]⟩) (by simp; omega)
  rw [List.map_map]
  exact lc
theorem pfl_core {ds Cs : List D} {n dl kl z : Int} {a o : Bool} {S : Store} (hb : g_check_both [.d (.tuple Cs), .d (.int z)] S = .ok (.d .none) S) (hk : (Cs.length : Int) = kl) (tu : g_is_tuple_of [.d (.tuple ds), .d (.int kl)] S = .ok (.d (.bool (decide (dl = kl)))) S) (ar : g_are_within [.d (.tuple ds), .d (.int 0), .d (.int 40)] S = .ok (.d (.bool a)) S)
    (lc : dl = kl → a = true → ∃ B, lcL (gT [gN 3, gT [gN 4, gN 5]]) tYesD l0_is_flights [some (.d (.tuple Cs)), some (.d (.int z)), some (.d (.tuple ds)), none, none, none] (zipD ds Cs) [] S = .ok B S ∧ fAny [.d (.list B)] S = .ok (.d (.bool o)) S ∧ (o = false → g_raw_noise [.d (.tuple Cs), .d (.tuple ds)] S = .ok (.d (.int n)) S)) :
    g_is_flights [.d (.tuple Cs), .d (.int z), .d (.tuple ds)] S = .ok (.d (.bool ((decide (dl = kl) && (a && !o)) && decide (n ≤ z)))) S := by
  generalize ez : zipD ds Cs = Z at *
  by_cases h : dl = kl
  · rw [decide_eq_true h] at tu
    cases a with
    | true =>
      obtain ⟨B, lc2, al, r⟩ := lc h rfl
      cases o with
      | true => simp [g_is_flights, ap_fnOf, b_is_flights, List.replicate, hb, hk, tu, ar, h, iZipX, ez, wipeE, lc2, al, leave]
      | false =>
        have r2 := r rfl
        simp [g_is_flights, ap_fnOf, b_is_flights, List.replicate, hb, hk, tu, ar, h, iZipX, ez, wipeE, lc2, al, r2, leave]
    | false => simp [g_is_flights, ap_fnOf, b_is_flights, List.replicate, hb, hk, tu, ar, h, leave]
  · rw [decide_eq_false h] at tu
    simp [g_is_flights, ap_fnOf, b_is_flights, List.replicate, hb, hk, tu, h, leave]
theorem pfl_no {C d : D} {kl z : Int} {S : Store} (hb : g_check_both [.d C, .d (.int z)] S = .ok (.d .none) S) (hk : fLen [.d C] S = .ok (.d (.int kl)) S) (tu : g_is_tuple_of [.d d, .d (.int kl)] S = .ok (.d (.bool false)) S) : g_is_flights [.d C, .d (.int z), .d d] S = .ok (.d (.bool false)) S := by
  simp [g_is_flights, ap_fnOf, b_is_flights, List.replicate, hb, hk, tu, leave]
theorem len_ks (ks : List Kd) (S : Store) : fLen [.d (knsD ks)] S = .ok (.d (.int ks.length)) S := by simp [knsD, fLen, view]
theorem flights_ok (h : OkK ks) (hz : 0 ≤ z ∧ z ≤ 4000) (d : D) (hl : ∀ ds, d = .tuple ds → ds.length ≤ 900) (S : Store) : g_is_flights [.d (knsD ks), .d (.int z), .d d] S = .ok (.d (.bool (flB ks z d))) S := by
  have hb := h.both hz S
  have tu := tupof_ok d (ks.length : Int) S
  cases d with
  | tuple ds =>
    have ar := are_ok (.tuple ds) 0 40 S hl
    have w40 : ∀ k ∈ ks, k.2 ≤ 40 := fun k hk => (h.al k hk).2.2
    have r := pfl_core (n := noi ks (intsD ds)) (z := z) (dl := (ds.length : Int)) (kl := (ks.length : Int)) (a := areB 0 40 (.tuple ds)) (o := ovrB ks (intsD ds)) hb (by simp) tu ar (fun e c => by
      obtain ⟨fs, rfl, hx⟩ := iD_of ds (show ds.all (inI 0 40) = true from c)
      rw [intsD_iD]
      refine ⟨_, pfl_lc (S := S) (knsD ks) (some (.d (.int z))) fs h.l2, ?_, fun _ => raw_noise_ok h S⟩
      have al := any_bools ((List.zip fs ks).map fun p => decide (p.2.2 < p.1)) S
      rw [List.any_map] at al
      exact al)
    refine r.trans ?_
    congr 3
    show _ = ((decide ((ds.length : Int) = (ks.length : Int)) && fitB ks ds) && decide (noi ks (intsD ds) ≤ z))
    by_cases e : (ds.length : Int) = (ks.length : Int)
    · rw [decide_eq_true e, Bool.true_and, Bool.true_and]
      congr 1
      cases c : areB 0 40 (.tuple ds) with
      | true =>
        obtain ⟨fs, rfl, hx⟩ := iD_of ds (show ds.all (inI 0 40) = true from c)
        rw [intsD_iD, fit_ovr ks fs (fun f hf => (hx f hf).1)]
        simp
      | false =>
        cases g : fitB ks ds with
        | false => rfl
        | true =>
          have := fit_ints ks ds (by omega) g w40
          rw [show areB 0 40 (.tuple ds) = ds.all (inI 0 40) from rfl, this] at c
          cases c
    · rw [decide_eq_false e, Bool.false_and, Bool.false_and, Bool.false_and, Bool.false_and]
  | _ =>
    exact pfl_no hb (len_ks ks S) tu
end
set_option exponentiation.threshold 5000
theorem aC {f : Ev} {fs : Av} {ρ : Env} {S S1 S2 : Store} {v : Vl} {vs : List Vl} (h : f ρ S = .ok v S1) (h2 : fs ρ S1 = .ok vs S2) : aCons f fs ρ S = .ok (v :: vs) S2 := by
  rw [ap_aCons, h, bind_ok, h2, bind_ok]
theorem aN {ρ : Env} {S : Store} : aNil ρ S = .ok [] S := rfl
theorem call2k {f : Fn} {e1 e2 : Ev} {v1 v2 v : Vl} {ρ : Env} (h1 : e1 ρ S = .ok v1 S) (h2 : e2 ρ S = .ok v2 S) (h : f [v1, v2] S = .ok v S) : eCallN 2 f (aCons e1 (aCons e2 aNil)) ρ S = .ok v S := by
  rw [ap_eCallN, aC h1 (aC h2 aN), bind_ok, if_pos (show [v1, v2].length = 2 from rfl), h]
section
variable {m m' : MO} {C Qd Du : D} {wh z mo le n : Int} {Gd Ev Wd B : List D} {S : Store}
theorem t0_ok (h : g__law_every [.d C] [m] = .ok (.loc 1) [m, .lst Ev]) : t0__law_is_right [some (.loc 0), some (.d C), none, none, none, none, none, none, none, none, none, none, none, none, none, none] [m] = .nx [some (.loc 0), some (.d C), some (.loc 1), none, none, none, none, none, none, none, none, none, none, none, none, none] [m, .lst Ev] := by
  simp [t0__law_is_right, h]
theorem t1_ok (h1 : atI Ev (-1) = some (.tuple Wd)) (h : g__law_noise [.d C, .d (.tuple Wd)] [m, .lst Ev] = .ok (.d (.int wh)) [m, .lst Ev]) : t1__law_is_right [some (.loc 0), some (.d C), some (.loc 1), none, none, none, none, none, none, none, none, none, none, none, none, none] [m, .lst Ev] = .nx [some (.loc 0), some (.d C), some (.loc 1), some (.d (.int wh)), none, none, none, none, none, none, none, none, none, none, none, none] [m, .lst Ev] := by
  have o : oIx (.loc 1) (.d (.int (-1))) [m, .lst Ev] = .ok (.d (.tuple Wd)) [m, .lst Ev] := by simp [oIx, view, h1, oPost]
  simp [t1__law_is_right, o, h]
theorem min4 {w : Int} : (if w < 4000 then w else 4000) = min 4000 w := by split <;> omega
theorem t2_ok (H : IsHand m) (hw : 0 ≤ wh) : ∃ z m', (0 ≤ z ∧ z ≤ 4000) ∧ IsHand m' ∧ t2__law_is_right [some (.loc 0), some (.d C), some (.loc 1), some (.d (.int wh)), none, none, none, none, none, none, none, none, none, none, none, none] [m, .lst Ev] = .nx [some (.loc 0), some (.d C), some (.loc 1), some (.d (.int wh)), some (.d (.int z)), none, none, none, none, none, none, none, none, none, none, none] [m', .lst Ev] := by
  obtain ⟨r, m1, r0, r1, H1, e1⟩ := draw_ok (min 4000 wh + 1) m [.lst Ev] (by omega) (by omega) H
  obtain ⟨q, m2, q0, q1, H2, e2⟩ := draw_ok 60 m1 [.lst Ev] (by omega) (by omega) H1
  obtain ⟨y, m3, hy, H3, e3⟩ := some_ok (xs := [.int 0, .int 4000, .int (min 4000 wh), .int r, .int q]) (R := [.lst Ev]) (by simp) (by simp) H2
  obtain ⟨z, rfl, s0⟩ : ∃ u : Int, y = .int u ∧ (0 ≤ u ∧ u ≤ 4000) := by
    simp only [List.mem_cons, List.not_mem_nil, or_false] at hy
    rcases hy with rfl | rfl | rfl | rfl | rfl <;> exact ⟨_, rfl, by omega, by omega⟩
  have mn : ∀ S, fMin2 [.d (.int 4000), .d (.int wh)] S = .ok (.d (.int (min 4000 wh))) S := fun S => by simp only [fMin2, view_d, min4]
  exact ⟨z, m3, s0, H3, by
    generalize min 4000 wh = w at *
    simp [t2__law_is_right, mn, e1, e2, e3, frs]⟩
theorem t3_ok (lc : lcL (gN 11) l1__law_is_right l0__law_is_right [some (.loc 0), some (.d C), some (.loc 1), some (.d (.int wh)), some (.d (.int z)), none, none, none, none, none, none, none, none, none, none, none] Ev [] [m, .fz (.list Ev)] = .ok Gd [m, .fz (.list Ev)]) : t3__law_is_right [some (.loc 0), some (.d C), some (.loc 1), some (.d (.int wh)), some (.d (.int z)), none, none, none, none, none, none, none, none, none, none, none] [m, .lst Ev] = .nx [some (.loc 0), some (.d C), some (.loc 1), some (.d (.int wh)), some (.d (.int z)), some (.d (.list Gd)), none, none, none, none, none, none, none, none, none, none] [m, .fz (.list Ev)] := by
  simp [t3__law_is_right, fr, seqOf, wipeE, lc]
theorem t4_ok (lc : lcL (gN 11) tYesD l2__law_is_right [some (.loc 0), some (.d C), some (.loc 1), some (.d (.int wh)), some (.d (.int z)), some (.d (.list Gd)), none, none, none, none, none, none, none, none, none, none] Gd [] S = .ok B S) (mx : fMax1 [.d (.list B)] S = .ok (.d (.int mo)) S) : t4__law_is_right [some (.loc 0), some (.d C), some (.loc 1), some (.d (.int wh)), some (.d (.int z)), some (.d (.list Gd)), none, none, none, none, none, none, none, none, none, none] S = .nx [some (.loc 0), some (.d C), some (.loc 1), some (.d (.int wh)), some (.d (.int z)), some (.d (.list Gd)), some (.d (.int mo)), none, none, none, none, none, none, none, none, none] S := by
  simp [t4__law_is_right, seqOf, wipeE, lc, mx]
theorem t5_ok (lc : lcL (gN 11) l4__law_is_right l3__law_is_right [some (.loc 0), some (.d C), some (.loc 1), some (.d (.int wh)), some (.d (.int z)), some (.d (.list Gd)), some (.d (.int mo)), none, none, none, none, none, none, none, none, none] Gd [] S = .ok B S) (mx : fMin1 [.d (.list B)] S = .ok (.d (.int le)) S) : t5__law_is_right [some (.loc 0), some (.d C), some (.loc 1), some (.d (.int wh)), some (.d (.int z)), some (.d (.list Gd)), some (.d (.int mo)), none, none, none, none, none, none, none, none, none] S = .nx [some (.loc 0), some (.d C), some (.loc 1), some (.d (.int wh)), some (.d (.int z)), some (.d (.list Gd)), some (.d (.int mo)), some (.d (.int le)), none, none, none, none, none, none, none, none] S := by
  simp [t5__law_is_right, seqOf, wipeE, lc, mx]
theorem t6_ok (lc : lcL (gN 11) l6__law_is_right l5__law_is_right [some (.loc 0), some (.d C), some (.loc 1), some (.d (.int wh)), some (.d (.int z)), some (.d (.list Gd)), some (.d (.int mo)), some (.d (.int le)), none, none, none, none, none, none, none, none] Gd [] S = .ok B S) (mx : fMax1 [.d (.list B)] S = .ok (.d Qd) S) : t6__law_is_right [some (.loc 0), some (.d C), some (.loc 1), some (.d (.int wh)), some (.d (.int z)), some (.d (.list Gd)), some (.d (.int mo)), some (.d (.int le)), none, none, none, none, none, none, none, none] S = .nx [some (.loc 0), some (.d C), some (.loc 1), some (.d (.int wh)), some (.d (.int z)), some (.d (.list Gd)), some (.d (.int mo)), some (.d (.int le)), some (.d Qd), none, none, none, none, none, none, none] S := by
  simp [t6__law_is_right, seqOf, wipeE, lc, mx]
theorem t7_ok {ld gl : Int} (hg : (Gd.length : Int) = gl) (lc : lcL (gN 11) tYesD l7__law_is_right [some (.loc 0), some (.d C), some (.loc 1), some (.d (.int wh)), some (.d (.int z)), some (.d (.list Gd)), some (.d (.int mo)), some (.d (.int le)), some (.d Qd), none, none, none, none, none, none, none] Gd [] S = .ok B S) (mx : fMax1 [.d (.list B)] S = .ok (.d (.int ld)) S) : t7__law_is_right [some (.loc 0), some (.d C), some (.loc 1), some (.d (.int wh)), some (.d (.int z)), some (.d (.list Gd)), some (.d (.int mo)), some (.d (.int le)), some (.d Qd), none, none, none, none, none, none, none] S = .nx [some (.loc 0), some (.d C), some (.loc 1), some (.d (.int wh)), some (.d (.int z)), some (.d (.list Gd)), some (.d (.int mo)), some (.d (.int le)), some (.d Qd), some (.d (.list [.int mo, Qd, .int ld, .int gl])), none, none, none, none, none, none] S := by
  simp [t7__law_is_right, seqOf, wipeE, lc, mx, hg, frs]
theorem t8_ok {ld gl : Int} (h1 : g_most_flights [.d C, .d (.int z)] S = .ok (.d (.int mo)) S) (h2 : g_quiet_flights [.d C, .d (.int z)] S = .ok (.d Qd) S) (h3 : g_loudest [.d C, .d (.int z)] S = .ok (.d (.int ld)) S) (h4 : g_ways_many [.d C, .d (.int z)] S = .ok (.d (.int gl)) S) (h5 : g__law_is 30 [.d (.list [.int mo, Qd, .int ld, .int gl]), .d (.list [.int mo, Qd, .int ld, .int gl])] S = .ok (.d (.bool true)) S) : t8__law_is_right [some (.loc 0), some (.d C), some (.loc 1), some (.d (.int wh)), some (.d (.int z)), some (.d (.list Gd)), some (.d (.int mo)), some (.d (.int le)), some (.d Qd), some (.d (.list [.int mo, Qd, .int ld, .int gl])), none, none, none, none, none, none] S = .nx [some (.loc 0), some (.d C), some (.loc 1), some (.d (.int wh)), some (.d (.int z)), some (.d (.list Gd)), some (.d (.int mo)), some (.d (.int le)), some (.d Qd), some (.d (.list [.int mo, Qd, .int ld, .int gl])), none, none, none, none, none, none] S := by
  have A := aC (call2k (ρ := [some (.loc 0), some (.d C), some (.loc 1), some (.d (.int wh)), some (.d (.int z)), some (.d (.list Gd)), some (.d (.int mo)), some (.d (.int le)), some (.d Qd), some (.d (.list [.int mo, Qd, .int ld, .int gl])), none, none, none, none, none, none]) (e1 := eVar 1) (e2 := eVar 4) rfl rfl h1) (aC (call2k (e1 := eVar 1) (e2 := eVar 4) rfl rfl h2) (aC (call2k (e1 := eVar 1) (e2 := eVar 4) rfl rfl h3) (aC (call2k (e1 := eVar 1) (e2 := eVar 4) rfl rfl h4) aN)))
  have Ls : eLst false (aCons (eCallN 2 g_most_flights (aCons (eVar 1) (aCons (eVar 4) aNil))) (aCons (eCallN 2 g_quiet_flights (aCons (eVar 1) (aCons (eVar 4) aNil))) (aCons (eCallN 2 g_loudest (aCons (eVar 1) (aCons (eVar 4) aNil))) (aCons (eCallN 2 g_ways_many (aCons (eVar 1) (aCons (eVar 4) aNil))) aNil)))) [some (.loc 0), some (.d C), some (.loc 1), some (.d (.int wh)), some (.d (.int z)), some (.d (.list Gd)), some (.d (.int mo)), some (.d (.int le)), some (.d Qd), some (.d (.list [.int mo, Qd, .int ld, .int gl])), none, none, none, none, none, none] S = .ok (.d (.list [.int mo, Qd, .int ld, .int gl])) S := by
    rw [ap_eLst, A, bind_ok]
    rfl
  have c := call2k (e2 := eVar 9) Ls rfl h5
  rw [t8__law_is_right, ap_sIf, ap_tNot, ap_tOf, c]
  rfl
end
theorem some_big {xs : List D} {m : MO} {R : Store} {v : Vl} (hv : ∀ m : MO, view (m :: R) v = some (.list xs)) (h : xs ≠ []) (hl : xs.length < 16000000) (H : IsHand m) : ∃ x m', x ∈ xs ∧ IsHand m' ∧ g__law_any [.loc 0, v] (m :: R) = .ok (.d x) (m' :: R) := by
  have hp : 0 < xs.length := List.length_pos_iff.mpr h
  obtain ⟨r, m', h0, h1, H', e⟩ := draw_ok xs.length m R (by omega) (by omega) H
  obtain ⟨k, rfl⟩ : ∃ k : Nat, r = k := ⟨r.toNat, by omega⟩
  have hk : k < xs.length := by omega
  have ex : atI xs k = some xs[k] := by rw [atI_nat]; simp [hk]
  have o := oIx_at (v := v) (hv m') ex
  have fl : fLen [v] (m :: R) = .ok (.d (.int xs.length)) (m :: R) := by simp [fLen, hv m]
  refine ⟨xs[k], m', List.getElem_mem hk, H', ?_⟩
  simp [g__law_any, ap_fnOf, b__law_any, fl, e, o, List.replicate]
theorem cut_len (ds : List D) (a b : Option Int) : (cutD ds a b).length ≤ ds.length := by
  unfold cutD
  simp
  omega
theorem add_tup {xs ys : List D} {S : Store} (h : xs.length + ys.length ≤ 900) : oAdd false (.d (.tuple xs)) (.d (.tuple ys)) S = .ok (.d (.tuple (xs ++ ys))) S := by
  have sz : xs.length + ys.length ≤ sizeLine := line1000 (by omega)
  simp [oAdd, sz]
section
variable {m m1 m2 m3 F : MO} {C Qd Du x1 x2 x o nw t : D} {wh z mo le n a : Int} {Gd Fs P Q2 Q3 : List D} {S : Store} {yturn yrow yat yodd ynew ything : Option Vl}
theorem st1 (e1 : g__law_any [.loc 0, .loc 1] [m, F] = .ok (.d x1) [m1, F]) (e2 : g__law_any [.loc 0, .d (.list Gd)] [m1, F] = .ok (.d x2) [m2, F]) (e3 : g__law_any [.loc 0, .d (.list [Qd, x1, x2])] [m2, F] = .ok (.d x) [m3, F]) : sSet 11 (eCallN 2 g__law_any (aCons (eVar 0) (aCons (eLst false (aCons (eVar 8) (aCons (eCallN 2 g__law_any (aCons (eVar 0) (aCons (eVar 2) aNil))) (aCons (eCallN 2 g__law_any (aCons (eVar 0) (aCons (eVar 5) aNil))) aNil)))) aNil))) [some (.loc 0), some (.d C), some (.loc 1), some (.d (.int wh)), some (.d (.int z)), some (.d (.list Gd)), some (.d (.int mo)), some (.d (.int le)), some (.d Qd), some (.d Du), yturn, yrow, yat, yodd, ynew, ything] [m, F] = .nx [some (.loc 0), some (.d C), some (.loc 1), some (.d (.int wh)), some (.d (.int z)), some (.d (.list Gd)), some (.d (.int mo)), some (.d (.int le)), some (.d Qd), some (.d Du), yturn, some (.d x), yat, yodd, ynew, ything] [m3, F] := by
  simp [e1, e2, e3, frs]
theorem st2 (hl : (Fs.length : Int) = n) (e1 : g__law_draw [.loc 0, .d (.int n)] [m, F] = .ok (.d (.int a)) [m1, F]) (e2 : g__law_any [.loc 0, .d (.list [.int 1, .int (-1), .int 41, .none, .bool true, .str "1", .tuple [.int 0]])] [m1, F] = .ok (.d o) [m2, F]) : sPar [(gN 12), (gN 13)] (aCons (eCallN 2 g__law_draw (aCons (eVar 0) (aCons (eCall fLen (aCons (eVar 11) aNil)) aNil))) (aCons (eCallN 2 g__law_any (aCons (eVar 0) (aCons (eLst false (aCons (eD (.int 1)) (aCons (eUn oNeg (eD (.int 1))) (aCons (eD (.int 41)) (aCons (eD .none) (aCons (eD (.bool true)) (aCons (eD (.str "1")) (aCons (eTup (aCons (eD (.int 0)) aNil)) aNil)))))))) aNil))) aNil)) [some (.loc 0), some (.d C), some (.loc 1), some (.d (.int wh)), some (.d (.int z)), some (.d (.list Gd)), some (.d (.int mo)), some (.d (.int le)), some (.d Qd), some (.d Du), yturn, some (.d (.tuple Fs)), yat, yodd, ynew, ything] [m, F] = .nx [some (.loc 0), some (.d C), some (.loc 1), some (.d (.int wh)), some (.d (.int z)), some (.d (.list Gd)), some (.d (.int mo)), some (.d (.int le)), some (.d Qd), some (.d Du), yturn, some (.d (.tuple Fs)), some (.d (.int a)), some (.d o), ynew, ything] [m2, F] := by
  simp [hl, e1, e2, frs]
noncomputable abbrev newE : Ev := eIf (tAnd (tOf (eBin (oIn false) (eVar 13) (eTup (aCons (eD (.int 1)) (aCons (eUn oNeg (eD (.int 1))) aNil))))) (tNot (tOf (eCall fIsi (aCons (eVar 13) (aCons (eTy .bool) aNil)))))) (eBin (oAdd false) (eBin oIx (eVar 11) (eVar 12)) (eVar 13)) (eVar 13)
theorem st3 {i : Int} (hi : atI Fs a = some (.int i)) (ho : o ∈ [PyData.int 1, .int (-1), .int 41, .none, .bool true, .str "1", .tuple [.int 0]]) : ∃ nw, sSet 14 newE [some (.loc 0), some (.d C), some (.loc 1), some (.d (.int wh)), some (.d (.int z)), some (.d (.list Gd)), some (.d (.int mo)), some (.d (.int le)), some (.d Qd), some (.d Du), yturn, some (.d (.tuple Fs)), some (.d (.int a)), some (.d o), ynew, ything] S = .nx [some (.loc 0), some (.d C), some (.loc 1), some (.d (.int wh)), some (.d (.int z)), some (.d (.list Gd)), some (.d (.int mo)), some (.d (.int le)), some (.d Qd), some (.d Du), yturn, some (.d (.tuple Fs)), some (.d (.int a)), some (.d o), some (.d nw), ything] S := by
  simp only [List.mem_cons, List.not_mem_nil, or_false] at ho
  have go : ∀ (b c : Bool), oIn false (.d o) (.d (.tuple [.int 1, .int (-1)])) S = .ok (.d (.bool b)) S → fIsi [.d o, .ty .bool] S = .ok (.d (.bool c)) S → (b = true → c = false → ∃ k, o = .int k) → ∃ nw, sSet 14 newE [some (.loc 0), some (.d C), some (.loc 1), some (.d (.int wh)), some (.d (.int z)), some (.d (.list Gd)), some (.d (.int mo)), some (.d (.int le)), some (.d Qd), some (.d Du), yturn, some (.d (.tuple Fs)), some (.d (.int a)), some (.d o), ynew, ything] S = .nx [some (.loc 0), some (.d C), some (.loc 1), some (.d (.int wh)), some (.d (.int z)), some (.d (.list Gd)), some (.d (.int mo)), some (.d (.int le)), some (.d Qd), some (.d Du), yturn, some (.d (.tuple Fs)), some (.d (.int a)), some (.d o), some (.d nw), ything] S := by
    intro b c h1 h2 h3
    cases b with
    | false => exact ⟨o, by simp [h1, frs]⟩
    | true =>
      cases c with
      | true => exact ⟨o, by simp [h1, h2, frs]⟩
      | false =>
        obtain ⟨k, rfl⟩ := h3 rfl rfl
        exact ⟨.int (i + k), by simp [h1, h2, frs, oIx, view, hi, oPost]⟩
  rcases ho with rfl | rfl | rfl | rfl | rfl | rfl | rfl
  · exact go true false rfl rfl fun _ _ => ⟨_, rfl⟩
  · exact go true false rfl rfl fun _ _ => ⟨_, rfl⟩
  · exact go false false rfl rfl fun h => by cases h
  · exact go false false rfl rfl fun h => by cases h
  · exact go true true rfl rfl fun _ h => by cases h
  · exact go false false rfl rfl fun h => by cases h
  · exact go false false rfl rfl fun h => by cases h
noncomputable abbrev thE : Ev := eCallN 2 g__law_any (aCons (eVar 0) (aCons (eLst false (aCons (eVar 11) (aCons (eBin (oAdd false) (eBin (oAdd false) (eSl false (eVar 11) pNo (pAt (eVar 12))) (eTup (aCons (eVar 14) aNil))) (eSl false (eVar 11) (pAt (eBin (oAdd false) (eVar 12) (eD (.int 1)))) pNo)) (aCons (eCall (fList false) (aCons (eVar 11) aNil)) (aCons (eSl false (eVar 11) (pAt (eD (.int 1))) pNo) (aCons (eBin (oAdd false) (eVar 11) (eTup (aCons (eD (.int 0)) aNil))) (aCons (eD .none) (aCons (eD (.int 5)) (aCons (eDic0 false) aNil))))))))) aNil))
theorem st4 (c1 : cutD Fs none (some a) = P) (c2 : cutD Fs (some (a + 1)) none = Q2) (c3 : cutD Fs (some 1) none = Q3) (hl : P.length + (1 + Q2.length) ≤ 900) (hF : Fs.length + 1 ≤ 900) (e : g__law_any [.loc 0, .d (.list [.tuple Fs, .tuple (P ++ [nw] ++ Q2), .list Fs, .tuple Q3, .tuple (Fs ++ [.int 0]), .none, .int 5, .dict []])] [m, F] = .ok (.d t) [m1, F]) : sSet 15 thE [some (.loc 0), some (.d C), some (.loc 1), some (.d (.int wh)), some (.d (.int z)), some (.d (.list Gd)), some (.d (.int mo)), some (.d (.int le)), some (.d Qd), some (.d Du), yturn, some (.d (.tuple Fs)), some (.d (.int a)), some (.d o), some (.d nw), ything] [m, F] = .nx [some (.loc 0), some (.d C), some (.loc 1), some (.d (.int wh)), some (.d (.int z)), some (.d (.list Gd)), some (.d (.int mo)), some (.d (.int le)), some (.d Qd), some (.d Du), yturn, some (.d (.tuple Fs)), some (.d (.int a)), some (.d o), some (.d nw), some (.d t)] [m1, F] := by
  have s1 := add_tup (xs := P) (ys := [nw]) (S := [m, F]) (by simp; omega)
  have s2 := add_tup (xs := P ++ [nw]) (ys := Q2) (S := [m, F]) (by simp; omega)
  have s3 := add_tup (xs := Fs) (ys := [.int 0]) (S := [m, F]) (by simp; omega)
  have b1 : eBin (oAdd false) (eBin (oAdd false) (eSl false (eVar 11) pNo (pAt (eVar 12))) (eTup (aCons (eVar 14) aNil))) (eSl false (eVar 11) (pAt (eBin (oAdd false) (eVar 12) (eD (.int 1)))) pNo) [some (.loc 0), some (.d C), some (.loc 1), some (.d (.int wh)), some (.d (.int z)), some (.d (.list Gd)), some (.d (.int mo)), some (.d (.int le)), some (.d Qd), some (.d Du), yturn, some (.d (.tuple Fs)), some (.d (.int a)), some (.d o), some (.d nw), ything] [m, F] = .ok (.d (.tuple (P ++ [nw] ++ Q2))) [m, F] := by
    have t1 : eBin (oAdd false) (eSl false (eVar 11) pNo (pAt (eVar 12))) (eTup (aCons (eVar 14) aNil)) [some (.loc 0), some (.d C), some (.loc 1), some (.d (.int wh)), some (.d (.int z)), some (.d (.list Gd)), some (.d (.int mo)), some (.d (.int le)), some (.d Qd), some (.d Du), yturn, some (.d (.tuple Fs)), some (.d (.int a)), some (.d o), some (.d nw), ything] [m, F] = .ok (.d (.tuple (P ++ [nw]))) [m, F] := by
      simp only [ap_eBin, ap_eSl, ap_eTup]
      simp [slV, c1, frs, s1]
    have t2 : eSl false (eVar 11) (pAt (eBin (oAdd false) (eVar 12) (eD (.int 1)))) pNo [some (.loc 0), some (.d C), some (.loc 1), some (.d (.int wh)), some (.d (.int z)), some (.d (.list Gd)), some (.d (.int mo)), some (.d (.int le)), some (.d Qd), some (.d Du), yturn, some (.d (.tuple Fs)), some (.d (.int a)), some (.d o), some (.d nw), ything] [m, F] = .ok (.d (.tuple Q2)) [m, F] := by
      simp [slV, c2]
    rw [ap_eBin, t1, bind_ok, t2, bind_ok, s2]
  have b2 : eCall (fList false) (aCons (eVar 11) aNil) [some (.loc 0), some (.d C), some (.loc 1), some (.d (.int wh)), some (.d (.int z)), some (.d (.list Gd)), some (.d (.int mo)), some (.d (.int le)), some (.d Qd), some (.d Du), yturn, some (.d (.tuple Fs)), some (.d (.int a)), some (.d o), some (.d nw), ything] [m, F] = .ok (.d (.list Fs)) [m, F] := by simp [fList, mkK]
  have b3 : eSl false (eVar 11) (pAt (eD (.int 1))) pNo [some (.loc 0), some (.d C), some (.loc 1), some (.d (.int wh)), some (.d (.int z)), some (.d (.list Gd)), some (.d (.int mo)), some (.d (.int le)), some (.d Qd), some (.d Du), yturn, some (.d (.tuple Fs)), some (.d (.int a)), some (.d o), some (.d nw), ything] [m, F] = .ok (.d (.tuple Q3)) [m, F] := by simp [slV, c3]
  have b4 : eBin (oAdd false) (eVar 11) (eTup (aCons (eD (.int 0)) aNil)) [some (.loc 0), some (.d C), some (.loc 1), some (.d (.int wh)), some (.d (.int z)), some (.d (.list Gd)), some (.d (.int mo)), some (.d (.int le)), some (.d Qd), some (.d Du), yturn, some (.d (.tuple Fs)), some (.d (.int a)), some (.d o), some (.d nw), ything] [m, F] = .ok (.d (.tuple (Fs ++ [.int 0]))) [m, F] := by
    simp only [ap_eBin, ap_eTup]
    simp [frs, s3]
  have b5 : eDic0 false [some (.loc 0), some (.d C), some (.loc 1), some (.d (.int wh)), some (.d (.int z)), some (.d (.list Gd)), some (.d (.int mo)), some (.d (.int le)), some (.d Qd), some (.d Du), yturn, some (.d (.tuple Fs)), some (.d (.int a)), some (.d o), some (.d nw), ything] [m, F] = .ok (.d (.dict [])) [m, F] := by
    simp
    rfl
  have A := aC (f := eVar 11) (ρ := [some (.loc 0), some (.d C), some (.loc 1), some (.d (.int wh)), some (.d (.int z)), some (.d (.list Gd)), some (.d (.int mo)), some (.d (.int le)), some (.d Qd), some (.d Du), yturn, some (.d (.tuple Fs)), some (.d (.int a)), some (.d o), some (.d nw), ything]) (S := [m, F]) (v := .d (.tuple Fs)) rfl (aC b1 (aC b2 (aC b3 (aC b4 (aC (f := eD .none) rfl (aC (f := eD (.int 5)) rfl (aC b5 aN)))))))
  have Ls : eLst false (aCons (eVar 11) (aCons (eBin (oAdd false) (eBin (oAdd false) (eSl false (eVar 11) pNo (pAt (eVar 12))) (eTup (aCons (eVar 14) aNil))) (eSl false (eVar 11) (pAt (eBin (oAdd false) (eVar 12) (eD (.int 1)))) pNo)) (aCons (eCall (fList false) (aCons (eVar 11) aNil)) (aCons (eSl false (eVar 11) (pAt (eD (.int 1))) pNo) (aCons (eBin (oAdd false) (eVar 11) (eTup (aCons (eD (.int 0)) aNil))) (aCons (eD .none) (aCons (eD (.int 5)) (aCons (eDic0 false) aNil)))))))) [some (.loc 0), some (.d C), some (.loc 1), some (.d (.int wh)), some (.d (.int z)), some (.d (.list Gd)), some (.d (.int mo)), some (.d (.int le)), some (.d Qd), some (.d Du), yturn, some (.d (.tuple Fs)), some (.d (.int a)), some (.d o), some (.d nw), ything] [m, F] = .ok (.d (.list [.tuple Fs, .tuple (P ++ [nw] ++ Q2), .list Fs, .tuple Q3, .tuple (Fs ++ [.int 0]), .none, .int 5, .dict []])) [m, F] := by
    rw [ap_eLst, A, bind_ok]
    rfl
  rw [ap_sSet, thE, ap_eCallN, aC (f := eVar 0) rfl (aC Ls aN), bind_ok, if_pos (show [Vl.loc 0, Vl.d (.list [.tuple Fs, .tuple (P ++ [nw] ++ Q2), .list Fs, .tuple Q3, .tuple (Fs ++ [.int 0]), .none, .int 5, .dict []])].length = 2 from rfl), e]
  rfl
theorem st5 {b : Bool} {w11 w12 w13 w14 : Option Vl} (e1 : g_is_flights [.d C, .d (.int z), .d t] S = .ok (.d (.bool b)) S) (e2 : g__law_is_flights [.d C, .d (.int z), .d t] S = .ok (.d (.bool b)) S) (e3 : g__law_is 30 [.d (.bool b), .d (.bool b)] S = .ok (.d (.bool true)) S) : (sIf (tNot (tOf (eCallN 2 (g__law_is 30) (aCons (eCallN 3 g_is_flights (aCons (eVar 1) (aCons (eVar 4) (aCons (eVar 15) aNil)))) (aCons (eCallN 3 g__law_is_flights (aCons (eVar 1) (aCons (eVar 4) (aCons (eVar 15) aNil)))) aNil))))) (sRet (eD (.bool false))) sNil) [some (.loc 0), some (.d C), some (.loc 1), some (.d (.int wh)), some (.d (.int z)), some (.d (.list Gd)), some (.d (.int mo)), some (.d (.int le)), some (.d Qd), some (.d Du), yturn, w11, w12, w13, w14, some (.d t)] S = .nx [some (.loc 0), some (.d C), some (.loc 1), some (.d (.int wh)), some (.d (.int z)), some (.d (.list Gd)), some (.d (.int mo)), some (.d (.int le)), some (.d Qd), some (.d Du), yturn, w11, w12, w13, w14, some (.d t)] S := by
  simp [e1, e2, e3]
end
set_option exponentiation.threshold 5000
def gdD (ks : List Kd) (z : Int) : List D := (goodR ks z).map rwD
theorem evr_len {ks : List Kd} (h : OkD ks) : (evr ks).length < 16000000 := by
  have := ev_len ks [[]] h.w5
  have p : 6 ^ ks.length ≤ 6 ^ 4 := Nat.pow_le_pow_right (by omega) h.l4
  unfold evr
  simp at this
  omega
theorem good_len {ks : List Kd} {z : Int} (h : OkD ks) : (goodR ks z).length < 16000000 := Nat.lt_of_le_of_lt (List.length_filter_le _ _) (evr_len h)
theorem good_mem {ks : List Kd} {z : Int} {f : List Int} : f ∈ goodR ks z ↔ Rw ks f ∧ noi ks f ≤ z := by
  unfold goodR
  rw [List.mem_filter, evr_mem, decide_eq_true_eq]
theorem quiet_good {ks : List Kd} {z : Int} (h : OkK ks) (h0 : 0 ≤ z) : quiet ks z ∈ goodR ks z := by
  have q := quiet_qt h h0
  exact good_mem.mpr ⟨q.rw, q.le⟩
theorem quiet_least {ks : List Kd} {z : Int} (h : OkK ks) (h0 : 0 ≤ z) {f : List Int} (hf : Rw ks f) (es : f.sum = (quiet ks z).sum) : noi ks (quiet ks z) ≤ noi ks f := by
  have q := quiet_qt h h0
  generalize quiet ks z = G at *
  obtain ⟨l1, b1⟩ := (rw_ix _ _).mp hf
  obtain ⟨l2, b2⟩ := (rw_ix _ _).mp q.rw
  rcases q.alt with a | ⟨j, hj, j1, j2, j3⟩
  · have e : f = G := by
      apply List.ext_getElem (by omega)
      intro i h1 h2
      rw [← atN_lt h1, ← atN_lt h2]
      apply Decidable.byContradiction
      intro ne
      have := sum_lt f G (by omega) (fun k hk => by
        have := (b1 k (by omega)).2
        have := a k (by omega)
        omega) ⟨i, by omega, by
        have := (b1 i (by omega)).2
        have := a i (by omega)
        omega⟩
      omega
    rw [e]
    exact Int.le_refl _
  · have t := qt_thr h q hj j3 hf
    rw [es, Int.sub_self, Int.mul_zero] at t
    omega
def mostR (ks : List Kd) (z : Int) : List (List Int) := (goodR ks z).filter fun f => decide (f.sum = (quiet ks z).sum)
def bestR (ks : List Kd) (z : Int) : List (List Int) := (goodR ks z).filter fun f => decide (f.sum = (quiet ks z).sum) && decide (noi ks f = noi ks (quiet ks z))
theorem most_noi {ks : List Kd} {z : Int} (h : OkK ks) (h0 : 0 ≤ z) : (mostR ks z).map (noi ks) ≠ [] ∧ mnL ((mostR ks z).map (noi ks)) = noi ks (quiet ks z) := by
  have m : quiet ks z ∈ mostR ks z := by
    unfold mostR
    rw [List.mem_filter]
    exact ⟨quiet_good h h0, by simp⟩
  have ne : (mostR ks z).map (noi ks) ≠ [] := by
    intro e
    rw [List.map_eq_nil_iff] at e
    rw [e] at m
    cases m
  refine ⟨ne, ?_⟩
  have a := mn_le (List.mem_map_of_mem (f := noi ks) m)
  obtain ⟨f, hf, e⟩ := List.mem_map.mp (mn_mem ne)
  unfold mostR at hf
  rw [List.mem_filter, good_mem, decide_eq_true_eq] at hf
  have := quiet_least h h0 hf.1.1 hf.2
  omega
theorem best_max {ks : List Kd} {z : Int} {S : Store} (h : OkK ks) (h0 : 0 ≤ z) : fMax1 [.d (.list ((bestR ks z).map rwD))] S = .ok (.d (rwD (quiet ks z))) S := by
  refine rows_max (n := ks.length) (fun f hf => ?_) ?_ (fun f hf => ?_)
  · unfold bestR at hf
    rw [List.mem_filter, good_mem] at hf
    exact ((rw_ix _ _).mp hf.1.1).1
  · unfold bestR
    rw [List.mem_filter]
    exact ⟨quiet_good h h0, by simp⟩
  · unfold bestR at hf
    rw [List.mem_filter, good_mem, Bool.and_eq_true, decide_eq_true_eq, decide_eq_true_eq] at hf
    exact quiet_lex h h0 hf.1.1 hf.2.1 hf.2.2
theorem gs_eq {ks : List Kd} {z : Int} : (goodR ks z).map (fun f => PyData.int f.sum) = iD (gsums ks z) := by
  unfold gsums iD goodR
  rw [List.map_map]
  rfl
section
variable {ks : List Kd} {wh z mo le : Int} {Gd : List D} {Qd Du : D} {S : Store}
theorem e1_ok (h : OkK ks) (f : List Int) : l1__law_is_right [some (.loc 0), some (.d (knsD ks)), some (.loc 1), some (.d (.int wh)), some (.d (.int z)), none, none, none, none, none, none, some (.d (rwD f)), none, none, none, none] S = .ok (decide (noi ks f ≤ z)) S := by
  have r := law_noise_ok (fs := f) h S
  unfold rwD
  simp [l1__law_is_right, r]
theorem c3_lc (h : OkD ks) : lcL (gN 11) l1__law_is_right l0__law_is_right [some (.loc 0), some (.d (knsD ks)), some (.loc 1), some (.d (.int wh)), some (.d (.int z)), none, none, none, none, none, none, none, none, none, none, none] (rowsD (evr ks)) [] S = .ok (gdD ks z) S :=
  lcB_fm (tg := gN 11) (t := l1__law_is_right) (f := l0__law_is_right) (ρ := [some (.loc 0), some (.d (knsD ks)), some (.loc 1), some (.d (.int wh)), some (.d (.int z)), none, none, none, none, none, none, none, none, none, none, none]) (S := S) rwD (fun f => decide (noi ks f ≤ z)) rwD (evr ks) (fun f hf => ⟨_, rfl, e1_ok h.k f, by simp [l0__law_is_right]⟩) (evr_len h)
theorem e2_ok (f : List Int) (ρ : Env) (h : ρ[11]? = some (some (.d (rwD f)))) : l2__law_is_right ρ S = .ok (.d (.int f.sum)) S := by
  have r := sumX_tup f S
  unfold rwD at h
  simp [l2__law_is_right, h, r]
theorem c4_lc (h : OkD ks) : lcL (gN 11) tYesD l2__law_is_right [some (.loc 0), some (.d (knsD ks)), some (.loc 1), some (.d (.int wh)), some (.d (.int z)), some (.d (.list Gd)), none, none, none, none, none, none, none, none, none, none] (gdD ks z) [] S = .ok (iD (gsums ks z)) S := by
  have lc := lcB_map (tg := gN 11) (f := l2__law_is_right) (ρ := [some (.loc 0), some (.d (knsD ks)), some (.loc 1), some (.d (.int wh)), some (.d (.int z)), some (.d (.list Gd)), none, none, none, none, none, none, none, none, none, none]) (S := S) rwD (fun f => .int f.sum) (goodR ks z) (fun f hf => ⟨_, rfl, e2_ok f _ rfl⟩) (good_len h)
  rw [gs_eq] at lc
  exact lc
theorem e4_ok (f : List Int) (ρ : Env) (h : ρ[11]? = some (some (.d (rwD f)))) (h2 : ρ[6]? = some (some (.d (.int mo)))) : l4__law_is_right ρ S = .ok (decide (f.sum = mo)) S := by
  have r := sumX_tup f S
  unfold rwD at h
  simp [l4__law_is_right, h, h2, r]
theorem e3_ok (h : OkK ks) (f : List Int) (ρ : Env) (h1 : ρ[11]? = some (some (.d (rwD f)))) (h2 : ρ[1]? = some (some (.d (knsD ks)))) : l3__law_is_right ρ S = .ok (.d (.int (noi ks f))) S := by
  have r := law_noise_ok (fs := f) h S
  unfold rwD at h1
  simp [l3__law_is_right, h1, h2, r]
theorem c5_lc (h : OkD ks) (hm : mo = (quiet ks z).sum) : lcL (gN 11) l4__law_is_right l3__law_is_right [some (.loc 0), some (.d (knsD ks)), some (.loc 1), some (.d (.int wh)), some (.d (.int z)), some (.d (.list Gd)), some (.d (.int mo)), none, none, none, none, none, none, none, none, none] (gdD ks z) [] S = .ok (iD ((mostR ks z).map (noi ks))) S := by
  have lc := lcB_fm (tg := gN 11) (t := l4__law_is_right) (f := l3__law_is_right) (ρ := [some (.loc 0), some (.d (knsD ks)), some (.loc 1), some (.d (.int wh)), some (.d (.int z)), some (.d (.list Gd)), some (.d (.int mo)), none, none, none, none, none, none, none, none, none]) (S := S) rwD (fun f => decide (f.sum = mo)) (fun f => .int (noi ks f)) (goodR ks z) (fun f hf => ⟨_, rfl, e4_ok f _ rfl rfl, e3_ok h.k f _ rfl rfl⟩) (good_len h)
  rw [hm] at *
  rw [show ((goodR ks z).filter fun f => decide (f.sum = (quiet ks z).sum)).map (fun f => PyData.int (noi ks f)) = iD ((mostR ks z).map (noi ks)) by unfold mostR iD; rw [List.map_map]; rfl] at lc
  exact lc
theorem e6_ok (h : OkK ks) (f : List Int) (ρ : Env) (h1 : ρ[11]? = some (some (.d (rwD f)))) (h2 : ρ[1]? = some (some (.d (knsD ks)))) (h3 : ρ[6]? = some (some (.d (.int mo)))) (h4 : ρ[7]? = some (some (.d (.int le)))) : l6__law_is_right ρ S = .ok (decide (f.sum = mo) && decide (noi ks f = le)) S := by
  have r := law_noise_ok (fs := f) h S
  have s := sumX_tup f S
  unfold rwD at h1
  by_cases q : f.sum = mo
  · simp [l6__law_is_right, h1, h2, h3, h4, r, s, q]
  · simp [l6__law_is_right, h1, h2, h3, h4, r, s, q]
theorem c6_lc (h : OkD ks) (hm : mo = (quiet ks z).sum) (hl : le = noi ks (quiet ks z)) : lcL (gN 11) l6__law_is_right l5__law_is_right [some (.loc 0), some (.d (knsD ks)), some (.loc 1), some (.d (.int wh)), some (.d (.int z)), some (.d (.list Gd)), some (.d (.int mo)), some (.d (.int le)), none, none, none, none, none, none, none, none] (gdD ks z) [] S = .ok ((bestR ks z).map rwD) S := by
  have lc := lcB_fm (tg := gN 11) (t := l6__law_is_right) (f := l5__law_is_right) (ρ := [some (.loc 0), some (.d (knsD ks)), some (.loc 1), some (.d (.int wh)), some (.d (.int z)), some (.d (.list Gd)), some (.d (.int mo)), some (.d (.int le)), none, none, none, none, none, none, none, none]) (S := S) rwD (fun f => decide (f.sum = mo) && decide (noi ks f = le)) rwD (goodR ks z) (fun f hf => ⟨_, rfl, e6_ok h.k f _ rfl rfl rfl rfl, by simp [l5__law_is_right]⟩) (good_len h)
  unfold bestR
  rw [← hm, ← hl]
  exact lc
theorem e7_ok (h : OkK ks) (f : List Int) (ρ : Env) (h1 : ρ[11]? = some (some (.d (rwD f)))) (h2 : ρ[1]? = some (some (.d (knsD ks)))) : l7__law_is_right ρ S = .ok (.d (.int (noi ks f))) S := by
  have r := law_noise_ok (fs := f) h S
  unfold rwD at h1
  simp [l7__law_is_right, h1, h2, r]
theorem c7_lc (h : OkD ks) : lcL (gN 11) tYesD l7__law_is_right [some (.loc 0), some (.d (knsD ks)), some (.loc 1), some (.d (.int wh)), some (.d (.int z)), some (.d (.list Gd)), some (.d (.int mo)), some (.d (.int le)), some (.d Qd), none, none, none, none, none, none, none] (gdD ks z) [] S = .ok (iD ((goodR ks z).map (noi ks))) S := by
  have lc := lcB_map (tg := gN 11) (f := l7__law_is_right) (ρ := [some (.loc 0), some (.d (knsD ks)), some (.loc 1), some (.d (.int wh)), some (.d (.int z)), some (.d (.list Gd)), some (.d (.int mo)), some (.d (.int le)), some (.d Qd), none, none, none, none, none, none, none]) (S := S) rwD (fun f => .int (noi ks f)) (goodR ks z) (fun f hf => ⟨_, rfl, e7_ok h.k f _ rfl rfl⟩) (good_len h)
  rw [show (goodR ks z).map (fun f => PyData.int (noi ks f)) = iD ((goodR ks z).map (noi ks)) by unfold iD; rw [List.map_map]; rfl] at lc
  exact lc
end
section
variable {ks : List Kd} {wh z mo le : Int} {Du : D}
theorem row_of {x : D} {z : Int} (h : OkD ks) (h0 : 0 ≤ z) (hx : x ∈ rowsD (evr ks) ∨ x ∈ gdD ks z ∨ x = rwD (quiet ks z)) : ∃ f, x = rwD f ∧ Rw ks f := by
  rcases hx with hx | hx | hx
  · obtain ⟨f, hf, rfl⟩ := List.mem_map.mp hx
    exact ⟨f, rfl, evr_mem.mp hf⟩
  · obtain ⟨f, hf, rfl⟩ := List.mem_map.mp hx
    exact ⟨f, rfl, (good_mem.mp hf).1⟩
  · exact ⟨_, hx, (quiet_qt h.k h0).rw⟩
theorem turn_ok {m : MO} {yturn yrow yat yodd ynew ything : Option Vl} (h : OkD ks) (hz : 0 ≤ z ∧ z ≤ 4000) (H : IsHand m) : ∃ (m' : MO) (yturn' yrow' yat' yodd' ynew' ything' : Option Vl), IsHand m' ∧ l8__law_is_right [some (.loc 0), some (.d (knsD ks)), some (.loc 1), some (.d (.int wh)), some (.d (.int z)), some (.d (.list (gdD ks z))), some (.d (.int mo)), some (.d (.int le)), some (.d (rwD (quiet ks z))), some (.d Du), yturn, yrow, yat, yodd, ynew, ything] [m, .fz (.list (rowsD (evr ks)))] = .nx [some (.loc 0), some (.d (knsD ks)), some (.loc 1), some (.d (.int wh)), some (.d (.int z)), some (.d (.list (gdD ks z))), some (.d (.int mo)), some (.d (.int le)), some (.d (rwD (quiet ks z))), some (.d Du), yturn', yrow', yat', yodd', ynew', ything'] [m', .fz (.list (rowsD (evr ks)))] := by
  have q0 := quiet_good h.k hz.1
  have v1 : ∀ m : MO, view [m, .fz (.list (rowsD (evr ks)))] (.loc 1) = some (.list (rowsD (evr ks))) := fun m => rfl
  have n1 : rowsD (evr ks) ≠ [] := by
    intro e
    have e : (evr ks).map rwD = [] := e
    rw [List.map_eq_nil_iff] at e
    unfold goodR at q0
    rw [e] at q0
    cases q0
  have n2 : gdD ks z ≠ [] := by
    intro e
    have e : (goodR ks z).map rwD = [] := e
    rw [List.map_eq_nil_iff] at e
    rw [e] at q0
    cases q0
  obtain ⟨x1, m1, hx1, H1, e1⟩ := some_big (R := [.fz (.list (rowsD (evr ks)))]) v1 n1 (by have := evr_len h; simpa [rowsD] using this) H
  obtain ⟨x2, m2, hx2, H2, e2⟩ := some_big (v := .d (.list (gdD ks z))) (R := [.fz (.list (rowsD (evr ks)))]) (fun m => rfl) n2 (by have := good_len (z := z) h; simpa [gdD] using this) H1
  obtain ⟨x, m3, hx, H3, e3⟩ := some_ok (xs := [rwD (quiet ks z), x1, x2]) (R := [.fz (.list (rowsD (evr ks)))]) (by simp) (by simp) H2
  obtain ⟨f, rfl, hf⟩ := row_of (x := x) (z := z) h hz.1 (by
    simp only [List.mem_cons, List.not_mem_nil, or_false] at hx
    rcases hx with rfl | rfl | rfl
    · exact .inr (.inr rfl)
    · exact .inl hx1
    · exact .inr (.inl hx2))
  have fl := ((rw_ix _ _).mp hf).1
  have l1 := h.k.l1
  have l4 := h.l4
  have iL : (iD f).length = f.length := iD_len
  obtain ⟨a, m4, a0, a1, H4, e4⟩ := draw_ok (f.length : Int) m3 [.fz (.list (rowsD (evr ks)))] (by omega) (by omega) H3
  obtain ⟨o, m5, ho, H5, e5⟩ := some_ok (xs := [.int 1, .int (-1), .int 41, .none, .bool true, .str "1", .tuple [.int 0]]) (R := [.fz (.list (rowsD (evr ks)))]) (by simp) (by simp) H4
  obtain ⟨k, rfl⟩ : ∃ k : Nat, a = k := ⟨a.toNat, by omega⟩
  have s1 := st1 (C := knsD ks) (Du := Du) (wh := wh) (z := z) (mo := mo) (le := le) (yturn := yturn) (yrow := yrow) (yat := yat) (yodd := yodd) (ynew := ynew) (ything := ything) e1 e2 e3
  have s2 := st2 (Fs := iD f) (C := knsD ks) (Du := Du) (Gd := gdD ks z) (Qd := rwD (quiet ks z)) (wh := wh) (z := z) (mo := mo) (le := le) (yturn := yturn) (yat := yat) (yodd := yodd) (ynew := ynew) (ything := ything) (by rw [iL]) e4 e5
  obtain ⟨nw, s3⟩ := st3 (Fs := iD f) (S := [m5, .fz (.list (rowsD (evr ks)))]) (C := knsD ks) (Du := Du) (Gd := gdD ks z) (Qd := rwD (quiet ks z)) (wh := wh) (z := z) (mo := mo) (le := le) (yturn := yturn) (ynew := ynew) (ything := ything) (at_iD (F := f) (i := k) (by omega)) ho
  have c1 := cut_len (iD f) none (some (k : Int))
  have c2 := cut_len (iD f) (some ((k : Int) + 1)) none
  have c3 := cut_len (iD f) (some 1) none
  obtain ⟨P, eP⟩ : ∃ P, cutD (iD f) none (some (k : Int)) = P := ⟨_, rfl⟩
  obtain ⟨Q2, eQ2⟩ : ∃ P, cutD (iD f) (some ((k : Int) + 1)) none = P := ⟨_, rfl⟩
  obtain ⟨Q3, eQ3⟩ : ∃ P, cutD (iD f) (some 1) none = P := ⟨_, rfl⟩
  rw [eP] at c1
  rw [eQ2] at c2
  rw [eQ3] at c3
  obtain ⟨t, m6, ht, H6, e6⟩ := some_ok (xs := [.tuple (iD f), .tuple (P ++ [nw] ++ Q2), .list (iD f), .tuple Q3, .tuple (iD f ++ [.int 0]), .none, .int 5, .dict []]) (R := [.fz (.list (rowsD (evr ks)))]) (by simp) (by simp) H5
  have s4 := st4 (Fs := iD f) (C := knsD ks) (Du := Du) (Gd := gdD ks z) (Qd := rwD (quiet ks z)) (wh := wh) (z := z) (mo := mo) (le := le) (o := o) (yturn := yturn) (ything := ything) eP eQ2 eQ3 (by omega) (by omega) e6
  have tl : ∀ ds, t = .tuple ds → ds.length ≤ 900 := fun ds e => by
    subst e
    simp only [List.mem_cons, List.not_mem_nil, or_false] at ht
    rcases ht with e | e | e | e | e | e | e | e
    · cases e; omega
    · cases e; simp; omega
    · cases e
    · cases e; omega
    · cases e; simp; omega
    · cases e
    · cases e
    · cases e
  have p1 := flights_ok (z := z) h.k hz t tl [m6, .fz (.list (rowsD (evr ks)))]
  have p2 := law_flights_ok (z := z) h.k t tl [m6, .fz (.list (rowsD (evr ks)))]
  have p3 := law_is_ok 29 (.bool (flB ks z t)) [m6, .fz (.list (rowsD (evr ks)))] True.intro
  have s5 := st5 (C := knsD ks) (Du := Du) (Gd := gdD ks z) (Qd := rwD (quiet ks z)) (wh := wh) (z := z) (mo := mo) (le := le) (yturn := yturn) (w11 := some (.d (.tuple (iD f)))) (w12 := some (.d (.int (k : Int)))) (w13 := some (.d o)) (w14 := some (.d nw)) p1 p2 p3
  refine ⟨m6, yturn, some (.d (.tuple (iD f))), some (.d (.int (k : Int))), some (.d o), some (.d nw), some (.d t), H6, ?_⟩
  rw [l8__law_is_right, ap_sCons, s1, seq_nx, ap_sCons, show rwD f = .tuple (iD f) from rfl, s2, seq_nx, ap_sCons, s3, seq_nx, ap_sCons, s4, seq_nx, s5]
theorem turns7 (h : OkD ks) (hz : 0 ≤ z ∧ z ≤ 4000) : ∀ (xs : List D) (m : MO) (yturn yrow yat yodd ynew ything : Option Vl), IsHand m → ∃ (m' : MO) (yturn' yrow' yat' yodd' ynew' ything' : Option Vl), IsHand m' ∧ forL (gN 10) l8__law_is_right xs [some (.loc 0), some (.d (knsD ks)), some (.loc 1), some (.d (.int wh)), some (.d (.int z)), some (.d (.list (gdD ks z))), some (.d (.int mo)), some (.d (.int le)), some (.d (rwD (quiet ks z))), some (.d Du), yturn, yrow, yat, yodd, ynew, ything] [m, .fz (.list (rowsD (evr ks)))] = .nx [some (.loc 0), some (.d (knsD ks)), some (.loc 1), some (.d (.int wh)), some (.d (.int z)), some (.d (.list (gdD ks z))), some (.d (.int mo)), some (.d (.int le)), some (.d (rwD (quiet ks z))), some (.d Du), yturn', yrow', yat', yodd', ynew', ything'] [m', .fz (.list (rowsD (evr ks)))] := by
  intro xs
  induction xs with
  | nil => exact fun m a b c d e f H => ⟨m, a, b, c, d, e, f, H, rfl⟩
  | cons x xs ih =>
    intro m yturn yrow yat yodd ynew ything H
    obtain ⟨m1, a1, b1, c1, d1, i1, f1, H1, e1⟩ := turn_ok (wh := wh) (mo := mo) (le := le) (Du := Du) (yturn := some (.d x)) (yrow := yrow) (yat := yat) (yodd := yodd) (ynew := ynew) (ything := ything) h hz H
    obtain ⟨m2, a2, b2, c2, d2, i2, f2, H2, e2⟩ := ih m1 a1 b1 c1 d1 i1 f1 H1
    refine ⟨m2, a2, b2, c2, d2, i2, f2, H2, ?_⟩
    rw [ap_forL1, ap_gN]
    simp only [List.set_cons_succ, List.set_cons_zero]
    rw [e1]
    exact e2
theorem t10_core {m m' : MO} {C : D} {r z2 x : Int} {F : MO} {yturn yrow yat yodd ynew ything : Option Vl} {Qd : D} {Gd : List D} (e : g__law_draw [.loc 0, .d (.int 50)] [m, F] = .ok (.d (.int r)) [m', F]) (h2 : (if z + 1 + r < 4000 then z + 1 + r else 4000) = z2) (hm : g_most_flights [.d C, .d (.int z2)] [m', F] = .ok (.d (.int x)) [m', F]) (hx : mo ≤ x) : t10__law_is_right [some (.loc 0), some (.d C), some (.loc 1), some (.d (.int wh)), some (.d (.int z)), some (.d (.list Gd)), some (.d (.int mo)), some (.d (.int le)), some (.d Qd), some (.d Du), yturn, yrow, yat, yodd, ynew, ything] [m, F] = .ret (.d (.bool true)) [m', F] := by
  simp [t10__law_is_right, e, fMin2, h2, hm, hx]
theorem more_most (h : OkK ks) (h0 : 0 ≤ z) {z2 : Int} (hz : z ≤ z2) : (quiet ks z).sum ≤ (quiet ks z2).sum := by
  have a := quiet_qt h h0
  have b := quiet_qt h (show 0 ≤ z2 by omega)
  exact qt_best h b a.rw (by have := a.le; omega)
end
theorem sm_bool (k : Nat) (b : Bool) : Sm k (.bool b) := by cases k <;> exact True.intro
theorem right_ok {ks : List Kd} {m : MO} (h : OkD ks) (H : IsHand m) : ∃ m', IsHand m' ∧ g__law_is_right [.loc 0, .d (knsD ks)] [m] = .ok (.d (.bool true)) [m'] := by
  have hk := h.k
  have wz : 0 ≤ noi ks (wan ks) := by
    have : noi ks (wan ks) ∈ (evr ks).map (noi ks) := List.mem_map_of_mem (evr_mem.mpr (wan_rw hk))
    rw [evr_ns] at this
    exact hk.ns _ this
  have a0 := t0_ok (m := m) (Ev := rowsD (evr ks)) (every_ok h [m])
  have la : atI (rowsD (evr ks)) (-1) = some (.tuple (iD (wan ks))) := atI_last (by
    unfold rowsD
    rw [List.getLast?_map, evr_last hk]
    rfl)
  have a1 := t1_ok (m := m) la (law_noise_ok hk _)
  obtain ⟨z, m1, hz, H1, a2⟩ := t2_ok (C := knsD ks) (Ev := rowsD (evr ks)) H wz
  have a3 := t3_ok (m := m1) (wh := noi ks (wan ks)) (c3_lc (z := z) h)
  have g0 := gsums_ne (z := z) hk hz.1
  have a4 := t4_ok (S := [m1, .fz (.list (rowsD (evr ks)))]) (wh := noi ks (wan ks)) (c4_lc (z := z) h) (max_of (F := gsums ks z) rfl g0)
  rw [gsums_mx hk hz.1] at a4
  have mn := most_noi hk hz.1
  have a5 := t5_ok (S := [m1, .fz (.list (rowsD (evr ks)))]) (wh := noi ks (wan ks)) (c5_lc (z := z) h rfl) (min_of rfl mn.1)
  rw [mn.2] at a5
  have a6 := t6_ok (S := [m1, .fz (.list (rowsD (evr ks)))]) (wh := noi ks (wan ks)) (c6_lc (z := z) h rfl rfl) (best_max hk hz.1)
  have ng : (goodR ks z).map (noi ks) ≠ [] := by
    intro e
    rw [List.map_eq_nil_iff] at e
    have := quiet_good hk hz.1
    rw [e] at this
    cases this
  have a7 := t7_ok (S := [m1, .fz (.list (rowsD (evr ks)))]) (wh := noi ks (wan ks)) (Gd := gdD ks z) (gl := ((goodR ks z).length : Int)) (mo := (quiet ks z).sum) (le := noi ks (quiet ks z)) (Qd := rwD (quiet ks z)) (by simp [gdD]) (c7_lc (z := z) h) (max_of rfl ng)
  rw [show mxL ((goodR ks z).map (noi ks)) = loudK ks z from rfl] at a7
  obtain ⟨zn, ez⟩ : ∃ zn : Nat, z = zn := ⟨z.toNat, by omega⟩
  have a8 := t8_ok (S := [m1, .fz (.list (rowsD (evr ks)))]) (wh := noi ks (wan ks)) (Gd := gdD ks z) (le := noi ks (quiet ks z)) (most_ok hk hz _) (quiet_ok hk hz _) (loudest_ok hk ez (by omega) _) (many_ok hk ez (by omega) _) (law_is_ok 29 _ _ ⟨by simp, fun d hd => by
    simp only [List.mem_cons, List.not_mem_nil, or_false] at hd
    rcases hd with rfl | rfl | rfl | rfl
    · exact sm_int _ _
    · exact sm_tup (by rw [iD_len]; have := ((rw_ix _ _).mp (quiet_qt hk hz.1).rw).1; have := hk.l2; omega) (fun d hd => by obtain ⟨i, _, rfl⟩ := List.mem_map.mp hd; exact sm_int _ _)
    · exact sm_int _ _
    · exact sm_int _ _⟩)
  obtain ⟨m2, y0, y1, y2, y3, y4, y5, H2, a9⟩ := turns7 (wh := noi ks (wan ks)) (mo := (quiet ks z).sum) (le := noi ks (quiet ks z)) (Du := .list [.int (quiet ks z).sum, rwD (quiet ks z), .int (loudK ks z), .int ((goodR ks z).length : Nat)]) h hz (rangeD 0 7) m1 none none none none none none H1
  obtain ⟨r, m3, r0, r1, H3, e10⟩ := draw_ok 50 m2 [.fz (.list (rowsD (evr ks)))] (by omega) (by omega) H2
  obtain ⟨z2, hz2⟩ : ∃ z2, (if z + 1 + r < 4000 then z + 1 + r else 4000) = z2 := ⟨_, rfl⟩
  have bz : z ≤ z2 ∧ 0 ≤ z2 ∧ z2 ≤ 4000 := by
    rw [← hz2]
    split <;> omega
  have a10 := t10_core (wh := noi ks (wan ks)) (le := noi ks (quiet ks z)) (Du := .list [.int (quiet ks z).sum, rwD (quiet ks z), .int (loudK ks z), .int ((goodR ks z).length : Nat)]) (yturn := y0) (yrow := y1) (yat := y2) (yodd := y3) (ynew := y4) (ything := y5) (Qd := rwD (quiet ks z)) (Gd := gdD ks z) e10 hz2 (most_ok hk bz.2 _) (more_most hk hz.1 bz.1)
  have it : ∀ ρ S, iRange (aCons (eD (.int 7)) aNil) ρ S = .ok (rangeD 0 7) S := fun ρ S => iRange_1 (by simp) (by omega) (by omega)
  have key : b__law_is_right [some (.loc 0), some (.d (knsD ks)), none, none, none, none, none, none, none, none, none, none, none, none, none, none] [m] = .ret (.d (.bool true)) [m3, .fz (.list (rowsD (evr ks)))] := by
    rw [b__law_is_right, ap_sCons, a0, seq_nx, ap_sCons, a1, seq_nx, ap_sCons, a2, seq_nx, ap_sCons, a3, seq_nx, ap_sCons, a4, seq_nx, ap_sCons, a5, seq_nx, ap_sCons, a6, seq_nx, ap_sCons, a7, seq_nx, ap_sCons, a8, seq_nx, ap_sCons, t9__law_is_right, ap_sFor, it, st_ok, a9, seq_nx, a10]
  exact ⟨m3, H3, fn_ret (n := 16) (sb := b__law_is_right) (vs := [.loc 0, .d (knsD ks)]) key⟩
theorem word_kinds {fb : Ev} {ρ : Env} {S : Store} (h : fb ρ S = .ex NK S) : eLam g__law_word fb ρ S = .ok (.d (.str "NoKinds")) S := by
  refine eLam_of fun p => ?_
  have k0 : kit_NoKinds (Str.ofString "NoKinds") = some true := by decide
  have k1 : kit_NoNumber (Str.ofString "NoKinds") = some false := by decide
  have kv : kit_ValueError (Str.ofString "NoKinds") = some true := by decide
  have ks : sub_FieldError (Str.ofString "NoKinds") = some true := by decide
  have vc : ∀ S, vCount (.d (.list [.bool true, .bool false])) (.d (.bool true)) S = .ok (.d (.int 1)) S := fun _ => rfl
  have vi : ∀ S, vIndex (.d (.list [.bool true, .bool false])) (.d (.bool true)) S = .ok (.d (.int 0)) S := fun _ => rfl
  have lo : ∀ S, lstOf S (.d (.list [.bool true, .bool false])) = some [.bool true, .bool false] := fun _ => rfl
  simp [g__law_word, ap_fnOf, b__law_word, List.replicate, sTryAs, h, ks]
  rw [pickA_of (r := .ret (.d (.str "NoKinds")) S) fun a => by simp [k0, k1, kv, lo, vc, vi, dropI, oIx, view, oPost, atI, ixN, PyData.truthy]]
  simp [leave]
theorem word_number {fb : Ev} {ρ : Env} {S : Store} (h : fb ρ S = .ex NN S) : eLam g__law_word fb ρ S = .ok (.d (.str "NoNumber")) S := by
  refine eLam_of fun p => ?_
  have k0 : kit_NoKinds (Str.ofString "NoNumber") = some false := by decide
  have k1 : kit_NoNumber (Str.ofString "NoNumber") = some true := by decide
  have kv : kit_ValueError (Str.ofString "NoNumber") = some true := by decide
  have ks : sub_FieldError (Str.ofString "NoNumber") = some true := by decide
  have vc : ∀ S, vCount (.d (.list [.bool false, .bool true])) (.d (.bool true)) S = .ok (.d (.int 1)) S := fun _ => rfl
  have vi : ∀ S, vIndex (.d (.list [.bool false, .bool true])) (.d (.bool true)) S = .ok (.d (.int 1)) S := fun _ => rfl
  have lo : ∀ S, lstOf S (.d (.list [.bool false, .bool true])) = some [.bool false, .bool true] := fun _ => rfl
  simp [g__law_word, ap_fnOf, b__law_word, List.replicate, sTryAs, h, ks]
  rw [pickA_of (r := .ret (.d (.str "NoNumber")) S) fun a => by simp [k0, k1, kv, lo, vc, vi, dropI, oIx, view, oPost, atI, ixN, PyData.truthy]]
  simp [leave]
def badB (d : D) : Bool := !kindsB d && match d with
  | .tuple ds => decide (ds.length ≤ 900)
  | _ => true
theorem badB_w {d : D} (h : badB d = true) : kindsB d = false ∧ ∀ ds, d = .tuple ds → ds.length ≤ 900 := by
  unfold badB at h
  rw [Bool.and_eq_true] at h
  refine ⟨by simpa using h.1, fun ds e => ?_⟩
  subst e
  simpa using h.2
theorem no_core {m m' : MO} {d XX : D} (mx : ∀ S, oMulT false (.d (.tuple [.tuple [.int 1, .int 1]])) (.d (.int 7)) S = .ok (.d XX) S) (h : g__law_any [.loc 0, .d (.list [.none, .tuple [], .int 5, .str "x", .list [.tuple [.int 1, .int 1]], .tuple [.tuple [.int 0, .int 1]], .tuple [.tuple [.int 101, .int 1]], .tuple [.tuple [.int 1, .int (-1)]], .tuple [.tuple [.int 1, .int 41]], .tuple [.tuple [.int 1]], .tuple [.tuple [.bool true, .int 1]], XX, .tuple [.list [.int 1, .int 1]], .dict [], .tuple [.tuple [.int 1, .int 1, .int 1]], .tuple [.tuple [.int 1, .none]], .tuple [.none]])] [m] = .ok (.d d) [m']) : g__law_no_kinds [.loc 0] [m] = .ok (.d d) [m'] := by
  have ln : ∀ n, n ≤ 1000 → n ≤ sizeLine := fun n h => line1000 h
  simp [g__law_no_kinds, ap_fnOf, b__law_no_kinds, List.replicate, mx, mkK, oAdd, ln, h, leave]
theorem no_kinds_ok {m : MO} (H : IsHand m) : ∃ d m', badB d = true ∧ IsHand m' ∧ g__law_no_kinds [.loc 0] [m] = .ok (.d d) [m'] := by
  obtain ⟨d, m1, hd, H1, e1⟩ := some_ok (xs := [.none, .tuple [], .int 5, .str "x", .list [.tuple [.int 1, .int 1]], .tuple [.tuple [.int 0, .int 1]], .tuple [.tuple [.int 101, .int 1]], .tuple [.tuple [.int 1, .int (-1)]], .tuple [.tuple [.int 1, .int 41]], .tuple [.tuple [.int 1]], .tuple [.tuple [.bool true, .int 1]], .tuple (List.replicate 7 (.tuple [.int 1, .int 1])), .tuple [.list [.int 1, .int 1]], .dict [], .tuple [.tuple [.int 1, .int 1, .int 1]], .tuple [.tuple [.int 1, .none]], .tuple [.none]]) (R := []) (by simp) (by simp) H
  refine ⟨d, m1, ?_, H1, no_core (fun S => ?_) e1⟩
  · simp only [List.mem_cons, List.not_mem_nil, or_false] at hd
    rcases hd with rfl | rfl | rfl | rfl | rfl | rfl | rfl | rfl | rfl | rfl | rfl | rfl | rfl | rfl | rfl | rfl | rfl <;> decide +kernel
  · simp [oMulT]
    rfl
theorem odd_noise {m : MO} (H : IsHand m) : ∃ d m', inI 0 4000 d = false ∧ IsHand m' ∧ g__law_any [.loc 0, .d (.list [.int (-1), .int 4001, .bool true, .none, .str "5"])] [m] = .ok (.d d) [m'] := by
  obtain ⟨d, m1, hd, H1, e1⟩ := some_ok (xs := [.int (-1), .int 4001, .bool true, .none, .str "5"]) (R := []) (by simp) (by simp) H
  refine ⟨d, m1, ?_, H1, e1⟩
  simp only [List.mem_cons, List.not_mem_nil, or_false] at hd
  rcases hd with rfl | rfl | rfl | rfl | rfl <;> decide +kernel
theorem mulL_n {x : D} {n : Nat} (h : 1 ≤ n ∧ n ≤ 5) (S : Store) : oMul false (.d (.list [x])) (.d (.int (n : Int))) S = .ok (.d (.list (List.replicate n x))) S := by
  have ln : ∀ n, n ≤ 1000 → n ≤ sizeLine := fun n h => line1000 h
  rcases (show n = 1 ∨ n = 2 ∨ n = 3 ∨ n = 4 ∨ n = 5 by omega) with rfl | rfl | rfl | rfl | rfl <;> simp [oMul, ln] <;> rfl
section
variable {m m' : MO} {C b o : D} {S : Store}
noncomputable def r0 : Sv := (sPar [(gN 2), (gN 3)] (aCons (eCallN 1 g__law_no_kinds (aCons (eVar 0) aNil)) (aCons (eCallN 2 g__law_any (aCons (eVar 0) (aCons (eLst false (aCons (eUn oNeg (eD (.int 1))) (aCons (eD (.int 4001)) (aCons (eD (.bool true)) (aCons (eD .none) (aCons (eD (.str "5")) aNil)))))) aNil))) aNil)))
theorem r0_ok {m1 : MO} (h1 : g__law_no_kinds [.loc 0] [m] = .ok (.d b) [m1]) (h2 : g__law_any [.loc 0, .d (.list [.int (-1), .int 4001, .bool true, .none, .str "5"])] [m1] = .ok (.d o) [m']) : r0 [some (.loc 0), some (.d C), none, none, none] [m] = .nx [some (.loc 0), some (.d C), some (.d b), some (.d o), none] [m'] := by
  simp [r0, h1, h2]
noncomputable def r1 : Sv := (sSet 4 (eLst false (aCons (eLam g__law_word l0__law_are_refused) (aCons (eLam g__law_word l1__law_are_refused) (aCons (eLam g__law_word l2__law_are_refused) aNil)))))
theorem r1_ok (x0 : g_most_flights [.d b, .d o] S = .ex NK S) (x1 : g_quiet_flights [.d b, .d o] S = .ex NK S) (x2 : g_loudest [.d b, .d o] S = .ex NK S) : r1 [some (.loc 0), some (.d C), some (.d b), some (.d o), none] S = .nx [some (.loc 0), some (.d C), some (.d b), some (.d o), some (.d (.list [.str "NoKinds", .str "NoKinds", .str "NoKinds"]))] S := by
  have w0 := word_kinds (fb := l0__law_are_refused) (ρ := [some (.loc 0), some (.d C), some (.d b), some (.d o), none]) (S := S) (by simp [l0__law_are_refused, x0])
  have w1 := word_kinds (fb := l1__law_are_refused) (ρ := [some (.loc 0), some (.d C), some (.d b), some (.d o), none]) (S := S) (by simp [l1__law_are_refused, x1])
  have w2 := word_kinds (fb := l2__law_are_refused) (ρ := [some (.loc 0), some (.d C), some (.d b), some (.d o), none]) (S := S) (by simp [l2__law_are_refused, x2])
  simp [r1, w0, w1, w2]
noncomputable def r2 : Sv := (sSet 4 (eBin (oAdd false) (eVar 4) (eLst false (aCons (eLam g__law_word l3__law_are_refused) (aCons (eLam g__law_word l4__law_are_refused) (aCons (eLam g__law_word l5__law_are_refused) aNil))))))
theorem r2_ok (x3 : g_ways_many [.d b, .d o] S = .ex NK S) (x4 : g_is_flights [.d b, .d o, .d .none] S = .ex NK S) (x5 : g_most_flights [.d C, .d o] S = .ex NN S) : r2 [some (.loc 0), some (.d C), some (.d b), some (.d o), some (.d (.list [.str "NoKinds", .str "NoKinds", .str "NoKinds"]))] S = .nx [some (.loc 0), some (.d C), some (.d b), some (.d o), some (.d (.list [.str "NoKinds", .str "NoKinds", .str "NoKinds", .str "NoKinds", .str "NoKinds", .str "NoNumber"]))] S := by
  have w0 := word_kinds (fb := l3__law_are_refused) (ρ := [some (.loc 0), some (.d C), some (.d b), some (.d o), some (.d (.list [.str "NoKinds", .str "NoKinds", .str "NoKinds"]))]) (S := S) (by simp [l3__law_are_refused, x3])
  have w1 := word_kinds (fb := l4__law_are_refused) (ρ := [some (.loc 0), some (.d C), some (.d b), some (.d o), some (.d (.list [.str "NoKinds", .str "NoKinds", .str "NoKinds"]))]) (S := S) (by simp [l4__law_are_refused, x4])
  have w2 := word_number (fb := l5__law_are_refused) (ρ := [some (.loc 0), some (.d C), some (.d b), some (.d o), some (.d (.list [.str "NoKinds", .str "NoKinds", .str "NoKinds"]))]) (S := S) (by simp [l5__law_are_refused, x5])
  have ln : ∀ n, n ≤ 1000 → n ≤ sizeLine := fun n h => line1000 h
  simp [r2, w0, w1, w2, oAdd, ln]
noncomputable def r3 : Sv := (sSet 4 (eBin (oAdd false) (eVar 4) (eLst false (aCons (eLam g__law_word l6__law_are_refused) (aCons (eLam g__law_word l7__law_are_refused) aNil)))))
theorem r3_ok (x6 : g_quiet_flights [.d C, .d o] S = .ex NN S) (x7 : g_loudest [.d C, .d o] S = .ex NN S) : r3 [some (.loc 0), some (.d C), some (.d b), some (.d o), some (.d (.list [.str "NoKinds", .str "NoKinds", .str "NoKinds", .str "NoKinds", .str "NoKinds", .str "NoNumber"]))] S = .nx [some (.loc 0), some (.d C), some (.d b), some (.d o), some (.d (.list [.str "NoKinds", .str "NoKinds", .str "NoKinds", .str "NoKinds", .str "NoKinds", .str "NoNumber", .str "NoNumber", .str "NoNumber"]))] S := by
  have w0 := word_number (fb := l6__law_are_refused) (ρ := [some (.loc 0), some (.d C), some (.d b), some (.d o), some (.d (.list [.str "NoKinds", .str "NoKinds", .str "NoKinds", .str "NoKinds", .str "NoKinds", .str "NoNumber"]))]) (S := S) (by simp [l6__law_are_refused, x6])
  have w1 := word_number (fb := l7__law_are_refused) (ρ := [some (.loc 0), some (.d C), some (.d b), some (.d o), some (.d (.list [.str "NoKinds", .str "NoKinds", .str "NoKinds", .str "NoKinds", .str "NoKinds", .str "NoNumber"]))]) (S := S) (by simp [l7__law_are_refused, x7])
  have ln : ∀ n, n ≤ 1000 → n ≤ sizeLine := fun n h => line1000 h
  simp [r3, w0, w1, oAdd, ln]
noncomputable def r4 : Sv := (sRet (eBin oEq (eBin (oAdd false) (eVar 4) (eLst false (aCons (eLam g__law_word l8__law_are_refused) (aCons (eLam g__law_word l9__law_are_refused) aNil)))) (eBin (oAdd false) (eBin (oMul false) (eLst false (aCons (eD (.str "NoKinds")) aNil)) (eD (.int 5))) (eBin (oMul false) (eLst false (aCons (eD (.str "NoNumber")) aNil)) (eD (.int 5))))))
theorem r4_ok (x8 : g_ways_many [.d C, .d o] S = .ex NN S) (x9 : g_is_flights [.d C, .d o, .d (.tuple [])] S = .ex NN S) : r4 [some (.loc 0), some (.d C), some (.d b), some (.d o), some (.d (.list [.str "NoKinds", .str "NoKinds", .str "NoKinds", .str "NoKinds", .str "NoKinds", .str "NoNumber", .str "NoNumber", .str "NoNumber"]))] S = .ret (.d (.bool true)) S := by
  have w0 := word_number (fb := l8__law_are_refused) (ρ := [some (.loc 0), some (.d C), some (.d b), some (.d o), some (.d (.list [.str "NoKinds", .str "NoKinds", .str "NoKinds", .str "NoKinds", .str "NoKinds", .str "NoNumber", .str "NoNumber", .str "NoNumber"]))]) (S := S) (by simp [l8__law_are_refused, x8])
  have tp : eTup aNil [some (.loc 0), some (.d C), some (.d b), some (.d o), some (.d (.list [.str "NoKinds", .str "NoKinds", .str "NoKinds", .str "NoKinds", .str "NoKinds", .str "NoNumber", .str "NoNumber", .str "NoNumber"]))] S = .ok (.d (.tuple [])) S := rfl
  have w1 := word_number (fb := l9__law_are_refused) (ρ := [some (.loc 0), some (.d C), some (.d b), some (.d o), some (.d (.list [.str "NoKinds", .str "NoKinds", .str "NoKinds", .str "NoKinds", .str "NoKinds", .str "NoNumber", .str "NoNumber", .str "NoNumber"]))]) (S := S) (by
    rw [l9__law_are_refused, ap_eCallN, aC (f := eVar 1) (v := .d C) rfl (aC (f := eVar 3) (v := .d o) rfl (aC tp aN)), bind_ok, if_pos (show [Vl.d C, Vl.d o, Vl.d (.tuple [])].length = 3 from rfl), x9])
  have ln : ∀ n, n ≤ 1000 → n ≤ sizeLine := fun n h => line1000 h
  have m4 : oMul false (.d (.list [.str "NoKinds"])) (.d (.int 5)) S = .ok (.d (.list [.str "NoKinds", .str "NoKinds", .str "NoKinds", .str "NoKinds", .str "NoKinds"])) S := mulL_n (n := 5) (by omega) S
  have m2 : oMul false (.d (.list [.str "NoNumber"])) (.d (.int 5)) S = .ok (.d (.list [.str "NoNumber", .str "NoNumber", .str "NoNumber", .str "NoNumber", .str "NoNumber"])) S := mulL_n (n := 5) (by omega) S
  have q := oEq_same (d := .list [.str "NoKinds", .str "NoKinds", .str "NoKinds", .str "NoKinds", .str "NoKinds", .str "NoNumber", .str "NoNumber", .str "NoNumber", .str "NoNumber", .str "NoNumber"]) (S := S) rfl
  simp [r4, w0, w1, m4, m2, oAdd, ln, q]
theorem refused_b : b__law_are_refused = sCons r0 (sCons r1 (sCons r2 (sCons r3 r4))) := rfl
theorem most_bad {d f : D} {x : Xn} (h : g_check_both [.d d, .d f] S = .ex x S) : g_most_flights [.d d, .d f] S = .ex x S := by
  simp [g_most_flights, ap_fnOf, b_most_flights, List.replicate, h, leave]
theorem quiet_bad {d f : D} {x : Xn} (h : g_check_both [.d d, .d f] S = .ex x S) : g_quiet_flights [.d d, .d f] S = .ex x S := by
  simp [g_quiet_flights, ap_fnOf, b_quiet_flights, List.replicate, h, leave]
theorem loud_bad {d f : D} {x : Xn} (h : g_check_both [.d d, .d f] S = .ex x S) : g_loudest [.d d, .d f] S = .ex x S := by
  simp [g_loudest, ap_fnOf, b_loudest, List.replicate, h, leave]
theorem many_bad {d f : D} {x : Xn} (h : g_check_both [.d d, .d f] S = .ex x S) : g_ways_many [.d d, .d f] S = .ex x S := by
  simp [g_ways_many, ap_fnOf, b_ways_many, List.replicate, h, leave]
theorem fl_bad {d f t : D} {x : Xn} (h : g_check_both [.d d, .d f] S = .ex x S) : g_is_flights [.d d, .d f, .d t] S = .ex x S := by
  simp [g_is_flights, ap_fnOf, b_is_flights, List.replicate, h, leave]
end
theorem refused_ok {ks : List Kd} {m : MO} (h : OkD ks) (H : IsHand m) : ∃ m', IsHand m' ∧ g__law_are_refused [.loc 0, .d (knsD ks)] [m] = .ok (.d (.bool true)) [m'] := by
  obtain ⟨b, m1, hb, H1, e1⟩ := no_kinds_ok H
  obtain ⟨b1, b2⟩ := badB_w hb
  obtain ⟨o, m2, ho, H2, e2⟩ := odd_noise H1
  have cb : ∀ S o, g_check_both [.d b, .d o] S = .ex NK S := fun S o => by rw [both_ok b o S b2, b1]; rfl
  have cn : ∀ S, g_check_both [.d (knsD ks), .d o] S = .ex NN S := fun S => by rw [both_ok _ _ _ h.k.hl, h.k.ok, ho]; rfl
  refine ⟨m2, H2, ?_⟩
  have key : b__law_are_refused [some (.loc 0), some (.d (knsD ks)), none, none, none] [m] = .ret (.d (.bool true)) [m2] := by
    rw [refused_b, ap_sCons, r0_ok e1 e2, seq_nx, ap_sCons, r1_ok (most_bad (cb _ _)) (quiet_bad (cb _ _)) (loud_bad (cb _ _)), seq_nx, ap_sCons, r2_ok (many_bad (cb _ _)) (fl_bad (cb _ _)) (most_bad (cn _)), seq_nx, ap_sCons, r3_ok (quiet_bad (cn _)) (loud_bad (cn _)), seq_nx, r4_ok (many_bad (cn _)) (fl_bad (cn _))]
  exact fn_ret (n := 5) (sb := b__law_are_refused) (vs := [.loc 0, .d (knsD ks)]) key
def ks0 : List Kd := [(5, 2), (3, 1), (5, 2)]
theorem o0 : ord ks0 = [(3, 1), (5, 0), (5, 2)] := by
  have e : enu ks0 = [(5, 0), (3, 1), (5, 2)] := by decide +kernel
  unfold ord
  rw [e]
  simp [List.mergeSort, List.MergeSort.Internal.splitInTwo, leK, ltK]
theorem q14 : quiet ks0 14 = [2, 1, 0] := by unfold quiet; rw [o0]; decide +kernel
theorem ks0_ok : OkK ks0 := ⟨by decide, by decide, fun k hk => by
  unfold ks0 at hk
  simp only [List.mem_cons, List.not_mem_nil, or_false] at hk
  rcases hk with rfl | rfl | rfl <;> exact ⟨⟨by decide, by decide⟩, by decide, by decide⟩⟩
abbrev toldD : D := .list [.int 3, .tuple [.int 2, .int 1, .int 0], .int 13, .int 4]
theorem k1 (S : Store) : g_most_flights [.d (knsD ks0), .d (.int 14)] S = .ok (.d (.int 3)) S := by
  have := most_ok ks0_ok (z := 14) (by decide) S
  rw [q14] at this
  exact this
theorem k2 (S : Store) : g_quiet_flights [.d (knsD ks0), .d (.int 14)] S = .ok (.d (.tuple [.int 2, .int 1, .int 0])) S := by
  have := quiet_ok ks0_ok (z := 14) (by decide) S
  rw [q14] at this
  exact this
theorem k3 (S : Store) : g_loudest [.d (knsD ks0), .d (.int 14)] S = .ok (.d (.int 13)) S := by
  have := loudest_ok ks0_ok (z := 14) (zn := 14) rfl (by decide) S
  rw [show loudK ks0 14 = 13 by decide +kernel] at this
  exact this
theorem k4 (S : Store) : g_ways_many [.d (knsD ks0), .d (.int 5)] S = .ok (.d (.int 4)) S := by
  have := many_ok ks0_ok (z := 5) (zn := 5) rfl (by decide) S
  rw [show (goodR ks0 5).length = 4 by decide +kernel] at this
  exact this
theorem k6 (S : Store) : g__law_is 30 [.d toldD, .d toldD] S = .ok (.d (.bool true)) S := law_is_ok 29 _ S ⟨by simp, fun d hd => by
  simp only [List.mem_cons, List.not_mem_nil, or_false] at hd
  rcases hd with rfl | rfl | rfl | rfl
  · exact sm_int _ _
  · exact sm_tup (by simp) (fun d hd => by simp at hd; rcases hd with rfl | rfl | rfl <;> exact sm_int _ _)
  · exact sm_int _ _
  · exact sm_int _ _⟩
theorem turns (ns : List Int) (x2 x3 : Option Vl) : ∀ (xs : List D) (m : MO) (x4 x5 : Option Vl), IsHand m → ∃ m' y4 y5, IsHand m' ∧ forL (gN 4) l0_law xs [some (.scr ns), some (.loc 0), x2, x3, x4, x5] [m] = .nx [some (.scr ns), some (.loc 0), x2, x3, y4, y5] [m'] := by
  intro xs
  induction xs with
  | nil => exact fun m x4 x5 H => ⟨m, x4, x5, H, rfl⟩
  | cons x xs ih =>
    intro m x4 x5 H
    obtain ⟨ks, m1, hk, H1, e1⟩ := kinds_ok H
    obtain ⟨m2, H2, e2⟩ := right_ok hk H1
    obtain ⟨m3, H3, e3⟩ := refused_ok hk H2
    obtain ⟨m', y4, y5, H', e⟩ := ih m3 (some (.d x)) (some (.d (knsD ks))) H3
    refine ⟨m', y4, y5, H', ?_⟩
    rw [ap_forL1, ap_gN]
    simp only [List.set_cons_succ, List.set_cons_zero]
    have st : l0_law [some (.scr ns), some (.loc 0), x2, x3, some (.d x), x5] [m] = .nx [some (.scr ns), some (.loc 0), x2, x3, some (.d x), some (.d (knsD ks))] [m3] := by
      simp [l0_law, e1, e2, e3]
    rw [st]
    exact e
theorem a2_core {C : D} {S : Store} {a b : Option Vl} (c1 : g_most_flights [.d C, .d (.int 14)] S = .ok (.d (.int 3)) S) (c2 : g_quiet_flights [.d C, .d (.int 14)] S = .ok (.d (.tuple [.int 2, .int 1, .int 0])) S) (c3 : g_loudest [.d C, .d (.int 14)] S = .ok (.d (.int 13)) S) (c4 : g_ways_many [.d C, .d (.int 5)] S = .ok (.d (.int 4)) S) : t2_law [a, b, some (.d C), none, none, none] S = .nx [a, b, some (.d C), some (.d toldD), none, none] S := by
  have A := aC (call2k (ρ := [a, b, some (.d C), none, none, none]) (e1 := eVar 2) (e2 := eD (.int 14)) rfl rfl c1) (aC (call2k (e1 := eVar 2) (e2 := eD (.int 14)) rfl rfl c2) (aC (call2k (e1 := eVar 2) (e2 := eD (.int 14)) rfl rfl c3) (aC (call2k (e1 := eVar 2) (e2 := eD (.int 5)) rfl rfl c4) aN)))
  rw [t2_law, ap_sSet, ap_eLst, A]
  rfl
theorem a3_core {S : Store} {a b c : Option Vl} (h : g__law_is 30 [.d toldD, .d toldD] S = .ok (.d (.bool true)) S) : t3_law [a, b, c, some (.d toldD), none, none] S = .nx [a, b, c, some (.d toldD), none, none] S := by
  have tp : eTup (aCons (eD (.int 2)) (aCons (eD (.int 1)) (aCons (eD (.int 0)) aNil))) [a, b, c, some (.d toldD), none, none] S = .ok (.d (.tuple [.int 2, .int 1, .int 0])) S := rfl
  have A := aC (f := eD (.int 3)) rfl (aC tp (aC (f := eD (.int 13)) rfl (aC (f := eD (.int 4)) rfl aN)))
  have Ls : eLst false (aCons (eD (.int 3)) (aCons (eTup (aCons (eD (.int 2)) (aCons (eD (.int 1)) (aCons (eD (.int 0)) aNil)))) (aCons (eD (.int 13)) (aCons (eD (.int 4)) aNil)))) [a, b, c, some (.d toldD), none, none] S = .ok (.d toldD) S := by
    rw [ap_eLst, A]
    rfl
  have q := call2k (e1 := eVar 3) (v1 := .d toldD) rfl Ls h
  rw [t3_law, ap_sIf, ap_tNot, ap_tOf, q]
  rfl
theorem law_true (ns : List Int) (h : ns.length ≤ 63) : ∃ S, g_law [.scr ns] [] = .ok (.d (.bool true)) S := by
  obtain ⟨m, H, e⟩ := hand_ok ns h
  have a0 : t0_law [some (.scr ns), none, none, none, none, none] [] = .nx [some (.scr ns), some (.loc 0), none, none, none, none] [m] := by
    simp [t0_law, e]
  have a1 : t1_law [some (.scr ns), some (.loc 0), none, none, none, none] [m] = .nx [some (.scr ns), some (.loc 0), some (.d (knsD ks0)), none, none, none] [m] := by
    simp [t1_law, frs, knsD, knD, ks0]
  have a2 := a2_core (C := knsD ks0) (S := [m]) (a := some (.scr ns)) (b := some (.loc 0)) (k1 _) (k2 _) (k3 _) (k4 _)
  have a3 := a3_core (S := [m]) (a := some (.scr ns)) (b := some (.loc 0)) (c := some (.d (knsD ks0))) (k6 _)
  obtain ⟨m', y4, y5, H', fl⟩ := turns ns (some (.d (knsD ks0))) (some (.d toldD)) (rangeD 0 5) m none none H
  have it : ∀ ρ S, iRange (aCons (eD (.int 5)) aNil) ρ S = .ok (rangeD 0 5) S := fun ρ S => iRange_1 (by simp) (by omega) (by omega)
  have key : b_law [some (.scr ns), none, none, none, none, none] [] = .ret (.d (.bool true)) [m'] := by
    rw [b_law, ap_sCons, a0, seq_nx, ap_sCons, a1, seq_nx, ap_sCons, a2, seq_nx, ap_sCons, a3, seq_nx, ap_sCons, t4_law, ap_sFor, it, st_ok, fl, seq_nx]
    rfl
  exact ⟨_, fn_ret (n := 6) (sb := b_law) (vs := [.scr ns]) key⟩
end Dl
open PySem.W PyProof.Rows PySem
set_option maxHeartbeats 0 in
theorem PySem.Challenge.cw_airfield_k60_whole_flights_of_a_night_holds : PySem.Challenge.rw_airfield_k60_whole_flights_of_a_night.Holds := by
  w_on; o_law; k_head; (case hw => w_witness2)
  k_fill
  refine Dl.walk_fkT (l := PySem.Challenge.rw_airfield_k60_whole_flights_of_a_night) (n := 63) (k := 32) (x := "script") (g := Dl.g_law) rfl (by decide) rfl ⟨rfl, by decide, by decide⟩ (fun w h Y => PySem.W.km_in_of Y) ?F Dl.law_true
  case F =>
    intro w mg fa h KX G hmg TT
    refine' Dl.law_use (x := "law") (y := "law") (st := Dl.s_law) (p := "script") KX G hmg ?a ?l ?b (fun fd same bind => ?_); (case a => k_is); (case l => k_is); (case b => exact fun _ _ _ _ _ _ s v => .of_eq rfl)
    refine' Dl.tab_use (x := "_law_are_refused") TT rfl ?a ?l ?c ?lc ?v ?n (fun t_0 n_0 => ?_); (case a => k_is); (case l => k_is); (case c => exact rfl); (case lc => k_is); (case v => exact rfl); (case n => exact rfl)
    refine ⟨fd, [((_, _), ("_law_are_refused" ++ ".<locals>." ++ "<lambda>" : Str))], (List.forall_mem_cons.mpr ⟨t_0, (fun _ z => nomatch z)⟩), (List.forall_mem_cons.mpr ⟨n_0, (fun _ z => nomatch z)⟩), bind, fun base KB GB TB => ?_⟩
    refine Dl.ok_law (base := base) ⟨?_, ?_, ?_, ?_, ?_, ?_, ?_, ?_, ?_, ?_, ?_, ?_, ?_, ?_, ?_, ?_, ?_, ?_, ?_, ?_, ?_, ?_, ?_, ?_, ?_, ?_, ?_, ?_, ?_, ?_, ?_, ?_, ?_, ?_, ?_, ?_, ?_, ?_, ?_, ?_, ?_, ?_, ?_, ?_, ?_, ?_, ?_, ?_, ?_, ?_, ?_, ?_, ?_, ?_, ?_, ?_⟩ hmg same
    · refine' Dl.DefF.mk' KX G ?a ?l ?c ?k; (case a => k_is); (case l => k_is); (case c => k_is); (case k => k_is)
    · refine' Dl.DefF.mk' KX G ?a ?l ?c ?k; (case a => k_is); (case l => k_is); (case c => k_is); (case k => k_is)
    · refine' Dl.DefF.mk' KX G ?a ?l ?c ?k; (case a => k_is); (case l => k_is); (case c => k_is); (case k => k_is)
    · refine' Dl.DefF.mk' KX G ?a ?l ?c ?k; (case a => k_is); (case l => k_is); (case c => k_is); (case k => k_is)
    · refine' Dl.DefF.mk' KX G ?a ?l ?c ?k; (case a => k_is); (case l => k_is); (case c => k_is); (case k => k_is)
    · refine' Dl.DefF.mk' KX G ?a ?l ?c ?k; (case a => k_is); (case l => k_is); (case c => k_is); (case k => k_is)
    · refine' Dl.DefF.mk' KX G ?a ?l ?c ?k; (case a => k_is); (case l => k_is); (case c => k_is); (case k => k_is)
    · refine' Dl.DefF.mk' KX G ?a ?l ?c ?k; (case a => k_is); (case l => k_is); (case c => k_is); (case k => k_is)
    · refine' Dl.DefF.mk' KX G ?a ?l ?c ?k; (case a => k_is); (case l => k_is); (case c => k_is); (case k => k_is)
    · refine' Dl.DefF.mk' KX G ?a ?l ?c ?k; (case a => k_is); (case l => k_is); (case c => k_is); (case k => k_is)
    · refine' Dl.DefF.mk' KX G ?a ?l ?c ?k; (case a => k_is); (case l => k_is); (case c => k_is); (case k => k_is)
    · refine' Dl.DefF.mk' KX G ?a ?l ?c ?k; (case a => k_is); (case l => k_is); (case c => k_is); (case k => k_is)
    · refine' Dl.DefF.mk' KX G ?a ?l ?c ?k; (case a => k_is); (case l => k_is); (case c => k_is); (case k => k_is)
    · refine' Dl.DefF.mk' KX G ?a ?l ?c ?k; (case a => k_is); (case l => k_is); (case c => k_is); (case k => k_is)
    · refine' Dl.DefF.mk' KX G ?a ?l ?c ?k; (case a => k_is); (case l => k_is); (case c => k_is); (case k => k_is)
    · refine' Dl.DefF.mk' KX G ?a ?l ?c ?k; (case a => k_is); (case l => k_is); (case c => k_is); (case k => k_is)
    · refine' Dl.DefF.mk' KX G ?a ?l ?c ?k; (case a => k_is); (case l => k_is); (case c => k_is); (case k => k_is)
    · refine' Dl.DefF.mk' KX G ?a ?l ?c ?k; (case a => k_is); (case l => k_is); (case c => k_is); (case k => k_is)
    · refine' Dl.DefF.mk' KX G ?a ?l ?c ?k; (case a => k_is); (case l => k_is); (case c => k_is); (case k => k_is)
    · refine' Dl.DefF.mk' KX G ?a ?l ?c ?k; (case a => k_is); (case l => k_is); (case c => k_is); (case k => k_is)
    · refine' Dl.DefF.mk' KX G ?a ?l ?c ?k; (case a => k_is); (case l => k_is); (case c => k_is); (case k => k_is)
    · refine' Dl.DefF.mk' KX G ?a ?l ?c ?k; (case a => k_is); (case l => k_is); (case c => k_is); (case k => k_is)
    · refine' Dl.DefF.mk' KX G ?a ?l ?c ?k; (case a => k_is); (case l => k_is); (case c => k_is); (case k => k_is)
    · refine' Dl.DefF.mk' KX G ?a ?l ?c ?k; (case a => k_is); (case l => k_is); (case c => k_is); (case k => k_is)
    · refine' Dl.DefF.mk' KX G ?a ?l ?c ?k; (case a => k_is); (case l => k_is); (case c => k_is); (case k => k_is)
    · refine' Dl.DefF.mk' KX G ?a ?l ?c ?k; (case a => k_is); (case l => k_is); (case c => k_is); (case k => k_is)
    · refine' Dl.DefF.mk' KX G ?a ?l ?c ?k; (case a => k_is); (case l => k_is); (case c => k_is); (case k => k_is)
    · refine' Dl.DefL.mk' KX G (TB _ (.head _)) ?a ?l ?c ?k (.head _) (List.forall_mem_cons.mpr ⟨(fun _ => rfl), (fun _ z => nomatch z)⟩); (case a => k_is); (case l => k_is); (case c => k_is); (case k => k_is)
    · refine' Dl.DefF.mk' KX G ?a ?l ?c ?k; (case a => k_is); (case l => k_is); (case c => k_is); (case k => k_is)
    · refine' Dl.IsF.cls' KX G (by decide) [("NoKinds", true), ("NoNumber", false)] ?a ?_; (case a => k_is)
      (refine' Dl.is_cons ?a ?k ?e1 ?e2 ?e3 ?e4 ?e5 ?e6 ?e7 ?e8 ?_; (case a => k_is); (case k => kit_is); (case e1 => k_is); (case e2 => k_is); (case e3 => k_is); (case e4 => k_is); (case e5 => k_is); (case e6 => k_is); (case e7 => k_is); (case e8 => k_is))
      (refine' Dl.is_cons ?a ?k ?e1 ?e2 ?e3 ?e4 ?e5 ?e6 ?e7 ?e8 ?_; (case a => k_is); (case k => kit_is); (case e1 => k_is); (case e2 => k_is); (case e3 => k_is); (case e4 => k_is); (case e5 => k_is); (case e6 => k_is); (case e7 => k_is); (case e8 => k_is))
      exact Dl.is_nil
    · refine' Dl.IsF.cls' KX G (by decide) [("NoKinds", false), ("NoNumber", true)] ?a ?_; (case a => k_is)
      (refine' Dl.is_cons ?a ?k ?e1 ?e2 ?e3 ?e4 ?e5 ?e6 ?e7 ?e8 ?_; (case a => k_is); (case k => kit_is); (case e1 => k_is); (case e2 => k_is); (case e3 => k_is); (case e4 => k_is); (case e5 => k_is); (case e6 => k_is); (case e7 => k_is); (case e8 => k_is))
      (refine' Dl.is_cons ?a ?k ?e1 ?e2 ?e3 ?e4 ?e5 ?e6 ?e7 ?e8 ?_; (case a => k_is); (case k => kit_is); (case e1 => k_is); (case e2 => k_is); (case e3 => k_is); (case e4 => k_is); (case e5 => k_is); (case e6 => k_is); (case e7 => k_is); (case e8 => k_is))
      exact Dl.is_nil
    · refine' Dl.IsF.blt' (T := "ValueError") KX G (by decide) (by decide) (by decide +kernel) [("NoKinds", true), ("NoNumber", true)] ?a ?_; (case a => k_is)
      (refine' Dl.is_cons ?a ?k ?e1 ?e2 ?e3 ?e4 ?e5 ?e6 ?e7 ?e8 ?_; (case a => k_is); (case k => kit_is); (case e1 => k_is); (case e2 => k_is); (case e3 => k_is); (case e4 => k_is); (case e5 => k_is); (case e6 => k_is); (case e7 => k_is); (case e8 => k_is))
      (refine' Dl.is_cons ?a ?k ?e1 ?e2 ?e3 ?e4 ?e5 ?e6 ?e7 ?e8 ?_; (case a => k_is); (case k => kit_is); (case e1 => k_is); (case e2 => k_is); (case e3 => k_is); (case e4 => k_is); (case e5 => k_is); (case e6 => k_is); (case e7 => k_is); (case e8 => k_is))
      exact Dl.is_nil
    · refine' Dl.TryF.mk' KX G [("NoKinds", true), ("NoNumber", true)] ?a ?_; (case a => k_is)
      (refine' Dl.tr_cons ?a ?k ?_; (case a => k_is); (case k => kts_exm))
      (refine' Dl.tr_cons ?a ?k ?_; (case a => k_is); (case k => kts_exm))
      exact Dl.tr_nil
    · refine' PySem.W.mg_none_of KX G ?z; (case z => k_is)
    · refine' PySem.W.mg_none_of KX G ?z; (case z => k_is)
    · refine' PySem.W.mg_none_of KX G ?z; (case z => k_is)
    · refine' PySem.W.mg_none_of KX G ?z; (case z => k_is)
    · refine' PySem.W.mg_none_of KX G ?z; (case z => k_is)
    · refine' PySem.W.mg_none_of KX G ?z; (case z => k_is)
    · refine' PySem.W.mg_none_of KX G ?z; (case z => k_is)
    · refine' PySem.W.mg_none_of KX G ?z; (case z => k_is)
    · refine' PySem.W.mg_none_of KX G ?z; (case z => k_is)
    · refine' PySem.W.mg_none_of KX G ?z; (case z => k_is)
    · refine' PySem.W.mg_none_of KX G ?z; (case z => k_is)
    · refine' PySem.W.mg_none_of KX G ?z; (case z => k_is)
    · refine' PySem.W.mg_none_of KX G ?z; (case z => k_is)
    · refine' PySem.W.mg_none_of KX G ?z; (case z => k_is)
    · refine' PySem.W.mg_none_of KX G ?z; (case z => k_is)
    · refine' PySem.W.mg_none_of KX G ?z; (case z => k_is)
    · refine' PySem.W.mg_none_of KX G ?z; (case z => k_is)
    · refine' Dl.ExF.mk' KX G ?a ?b ?c ?d ?e; (case a => k_is); (case b => k_exc); (case c => k_is); (case d => k_is); (case e => k_is)
    · refine' Dl.ExF.mk' KX G ?a ?b ?c ?d ?e; (case a => k_is); (case b => k_exc); (case c => k_is); (case d => k_is); (case e => k_is)
    · refine' Dl.IntF.mk' KX G ?a; (case a => k_is)
    · refine' Dl.IntF.mk' KX G ?a; (case a => k_is)
    · refine' Dl.IntF.mk' KX G ?a; (case a => k_is)
    · refine' Dl.IntF.mk' KX G ?a; (case a => k_is)
