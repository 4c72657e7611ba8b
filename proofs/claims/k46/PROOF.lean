import PyProof.Rows.All
import Wide.All
import OpenK.AllK
import Wide.FinOn
import HandS.ForMost
import HandS.Exc
import HandS.TryOnly
import HandS.ExcOwn
import HandS.WordsExc
import HandS.TupAny
import HandS.Zip
import HandS.Style
import HandS.Wide
import HandS.TupMul
import HandS.IsInst
import HandS.Deep
import KE.DataCmp
import KE.DataEq
import KE.DataFind
import KE.DataIsa
import KE.DataMinMax
import KE.DataAny
import KE.SortData
import HandS.Walk
import HandS.Flow
import HandS.HeadHook1
import PySem.Challenge.RW_airfield_k46_whole_lengths_of_rolls
set_option Elab.async false
set_option linter.all false
set_option maxRecDepth 100000
set_option maxHeartbeats 5000000
namespace Dl
open PySem.Spec PyProof.Rows PySem L2
structure Fk (P : Program) (w : World) (K : PySem.W.Frag) (mg : Str → Option Value) (base : Heap) (k : Nat) (f : Addr) (fd : FuncData) (ps : List Str) (sp : Sp) : Prop where
  many : ∀ vs H Q E, sp vs H Q E → vs.length = ps.length
  go : ∀ (B : Around) (fs : List PySem.Env) (s : Shared) (H : Hp) (as : Args) (us : List Value) (vs : List V) (Q : VK) (E : XK), Room k B → B.guards = some [] → Env0 P w K mg base B fs s H → BindsTo s fd as (ps.zip us) → Vals vs us → sp vs H Q E →
    codeAny (model P w) B (.call (.ref f) as) (CR (L2.CX P w) fs P w H s Q E) s
variable {P : Program} {w : World} {K : PySem.W.Frag} {mg : Str → Option Value} {base : Heap}
theorem Fk.mono {j k : Nat} {f : Addr} {fd : FuncData} {ps : List Str} {sp : Sp} (F : Fk P w K mg base j f fd ps sp) (h : j ≤ k) : Fk P w K mg base k f fd ps sp :=
  ⟨F.many, fun B fs s H as us vs Q E r => F.go B fs s H as us vs Q E (r.mono h)⟩
theorem fk_of {x q : Str} {st : Stmt} {f : Addr} {fd : FuncData} {N ps : List Str} {k : Nat} {sp : Sp} (F : Fun K x q st f fd) (S : FnScope N ps (defScope st)) (many : ∀ vs H Q E, sp vs H Q E → vs.length = ps.length)
    (body : ∀ (cdv : Value) (B : Around) (fs : List PySem.Env) (s : Shared) (H : Hp) (vs : List V) (Q : VK) (E : XK), Room k (B.deeper (envOfC q (defScope st) s.heap.objs.size f cdv)) → B.guards = some [] → sp vs H Q E →
      ∃ t, PSs (cxOf (L2.CX P w) P w K mg base N q (defScope st) f cdv B fs s H E) (defBody st) t ∧ t { nx := fun _ H2 => Q .non H2, rt := Q } (start N vs) H) : Fk P w K mg base (k + 1) f fd ps sp := by
  obtain ⟨oc, od, kV, doc, pm, an, cdv, ct, osl, rfl, look, code⟩ := F.ex
  refine ⟨many, fun B fs s H as us vs Q E room gd env bind vals prom => ?_⟩
  have ln := many _ _ _ _ prom
  have inK : K.In s.heap := env.mod.kin.keeps fun b o e => (env.bs b o e).1
  have noLim : s.heap.NoLimit := env.mod.nolimit.keeps fun b o e => (env.bs b o e).1
  refine codeAny_call_function room.depth (inK _ _ look) rfl S.co S.gen rfl (PySem.W.codeRec_of inK code) (bind _ _ _ _ ?_)
  refine wpAny_newFunctionEnv_cells S.kind (fun y hy => ?_) fun ev hev s1 ic => ?_
  · have par := S.par y.1 (List.of_mem_zip (show (y.1, y.2) ∈ ps.zip us from hy)).1
    exact par.imp (fun l => l) fun c => ⟨c, PySem.W.cellsFrom_some _ _ _ (.inl c)⟩
  · subst hev
    refine ⟨noLim.keeps ic.toInCall.keep, codeAny_func ?_⟩
    obtain ⟨t, pss, tq⟩ := body cdv B fs s H vs Q E (room.deeper _) gd prom
    have J := inv_start (CX := L2.CX P w) (E := E) S room.hd env ln vals ic
    refine wpAny_mono (pss.run [] s1 (start N vs) H _ J tq) (fun fl s2 done => ?_) fun _ _ out => out
    cases fl with
    | ret u =>
      obtain ⟨v, σ2, H2, J2, rv, q2⟩ := done
      exact ⟨v, H2, J2.os, J2.bare, J2.base, J2.hok, rv, q2⟩
    | next =>
      obtain ⟨σ2, H2, J2, q2⟩ := done
      exact ⟨.non, H2, J2.os, J2.bare, J2.base, J2.hok, rfl, q2⟩
    | brk =>
      obtain ⟨_, _, _, z⟩ := done
      exact (show False from z).elim
    | cont =>
      obtain ⟨_, _, _, z⟩ := done
      exact (show False from z).elim
section
variable {X : Cx} {k : Nat} {f : Addr} {fd : FuncData} {ps : List Str} {sp : Sp} {W : WX}
theorem run_fk {pins : List (Addr × Obj)} {σ : L2.St} {H : Hp} {s : Shared} {Q : VK} {us : List Value} {vs : List V} (G : Fk X.prog X.w X.K X.mg X.base k f fd ps sp) (room : Room k X.A) (gd : X.A.guards = some []) (bi : Binds X.K fd ps []) (tk : Takes X W)
    (J : Inv X pins σ H s) (r : Vals vs us) (prom : sp vs H Q fun c d H2 => W c d σ H2) : wpAny (model X.prog X.w) X.A (call (.ref f) us) (EP X pins σ Q) X.xe s := by
  have ln : us.length = ps.length := r.length.symm.trans (G.many _ _ _ _ prom)
  have bd := bi s us J.kIn (by rw [List.append_nil]; exact ln)
  rw [List.append_nil] at bd
  refine wpAny_call (codeAny_mono (G.go X.A X.stack s H ⟨us, []⟩ us vs Q _ room gd J.env0 bd r prom) fun res s2 done => ?_)
  cases res with
  | error e => exact tk e s2 (XE.of_call J (fun _ _ _ z => z) done)
  | ok fl =>
    cases fl with
    | ret u => exact J.after done
    | next => exact done.elim
    | brk => exact done.elim
    | cont => exact done.elim
theorem pe_callk {x : Str} {p pos : Pos} {e : Expr} {es : List Expr} {t : TA} (G : Fk X.prog X.w X.K X.mg X.base k f fd ps sp) (room : Room k X.A) (gd : X.A.guards = some []) (tk : Takes X W) (glob : Gl X x) (there : X.mg x = some (.ref f)) (keep : PySem.W.keepIn X.K (.ref f) = true)
    (bi : Binds X.K fd ps []) (ha : PA X (e :: es) t) (nd : (x == ("__debug__" : Str)) = false := by decide) (h1 : starEach (e :: es) X.env = (false, eval e X.env) :: starEach es X.env := by rfl) (h2 : (backTo pos (starEach es X.env)).any (·.1) = false := by rfl) :
    PE X (.Call (.Name x p) (e :: es) [] pos) (fun σ H Q => t σ H fun vs H1 => sp vs H1 Q fun c d H2 => W c d σ H2) := ⟨fun pins s σ H Q J h =>
  wpAny_Call_Name_kw (ld_glob J glob there (PySem.W.callWith_K (h₀ := X.base) J.ok.mod.kin keep (thn (ha.run pos pins s σ H _ J h) fun us s1 ⟨vs, H1, J1, r, q⟩ => ⟨J1.kIn, run_fk G room gd bi tk J1 r q⟩) h1 h2) nd)⟩
theorem pe_callk0 {x : Str} {p pos : Pos} (G : Fk X.prog X.w X.K X.mg X.base k f fd ps sp) (room : Room k X.A) (gd : X.A.guards = some []) (tk : Takes X W) (glob : Gl X x) (there : X.mg x = some (.ref f)) (keep : PySem.W.keepIn X.K (.ref f) = true)
    (bi : Binds X.K fd ps []) (nd : (x == ("__debug__" : Str)) = false := by decide) : PE X (.Call (.Name x p) [] [] pos) (fun σ H Q => sp [] H Q fun c d H2 => W c d σ H2) := ⟨fun pins s σ H Q J h =>
  wpAny_Call_Name_kw (ld_glob J glob there (PySem.W.callWith_K0 J.kIn keep (run_fk (us := []) G room gd bi tk J .nil h)) nd)⟩
end
theorem law_at {k : Nat} {fa a : Addr} {fd : FuncData} {x : Str} {sp : Sp} {s : Shared} {mb : Str → Option Value} {ob : Obj} {H : Hp} (inK : K.In s.heap) (ns : s.heap.Ns mainGlobals mg) (nb : s.heap.Ns builtinsNs mb) (bb : ∀ x : Str, x ≠ "__name__" → mb x = bootBuiltins x)
    (lim : s.heap.NoLimit) (gn : s.gens = #[]) (at_ : s.heap.get? a = some ob) (lst : ∀ es ep, ob.data ≠ .dict es ep) (room : Room k callerA) (F : ∀ base : Heap, K.In base → base.Ns mainGlobals mg → Fk P w K mg base k fa fd [x] sp) (bind : ∀ (s : Shared) (u : Value), BindsTo s fd ⟨[u], []⟩ [(x, u)])
    (hok : HOk P w H s.heap) (only : ∀ b, H b ≠ none → b = a) (fz : H a ≠ none → K.lookup a = none ∧ ∃ u, H a = some (.frz ob u)) (prom : sp [.ref a] H (fun v _ => v = .bl true) fun _ _ _ => False) :
    codeAny (model P w) callerA (.call (.ref fa) ⟨[.ref a], []⟩) (fun r s' => r = .ok (.ret (.bool true)) ∧ OldK s.heap s'.heap ∧ s'.os = s.os ∧ AllBare s'.gens) s := by
  have free : ∀ {b : Addr} {o : Obj}, b ≠ a → H b = none := fun {b _} nb => by
    cases q : H b with
    | none => rfl
    | some u => exact absurd (only b (by rw [q]; simp)) nb
  have dictFree : ∀ {b : Addr} {o : Obj} {es : Array DictEntry} {ep : Nat}, s.heap.get? b = some o → o.data = .dict es ep → H b = none := fun {b o es ep} e d => by
    by_cases z : b = a
    · subst z
      rw [at_] at e
      cases e
      exact absurd d (lst es ep)
    · exact free (o := o) z
  have kFree : ∀ b o, K.lookup b = some o → H b = none := fun b o e => by
    by_cases z : b = a
    · subst z
      cases q : H b with
      | none => rfl
      | some u => rw [(fz (by rw [q]; simp)).1] at e; cases e
    · exact free (o := o) z
  have nsUp : ∀ {b : Addr} {m : Str → Option Value}, s.heap.Ns b m → (hidT s.heap H).Ns b m := fun {b m} ⟨o, es, ep, e, d, r⟩ => ⟨o, es, ep, hidT_get e (dictFree e d), d, r⟩
  have kBase : K.In (hidT s.heap H) := fun b o e => hidT_get (inK b o e) (kFree b o e)
  have md : Mod K mg (hidT s.heap H) := ⟨kBase, nsUp ns, ⟨mb, nsUp nb, bb⟩, lim.imp fun _ z => ⟨nsUp z.1, z.2⟩⟩
  have env : Env0 P w K mg (hidT s.heap H) callerA [] s H := ⟨rfl, md, fun b o e => of_hidT e, Nat.le_of_eq (hidT_size _ _), trivial, fun b hb => absurd (show b ∈ ([] : List Addr) from hb) (by simp), hok, .of_eq gn⟩
  refine codeAny_mono ((F _ kBase (nsUp ns)).go callerA [] s H ⟨[.ref a], []⟩ [.ref a] [.ref a] _ _ room rfl env (bind s (.ref a)) (.cons rfl .nil) prom) fun r s2 done => ?_
  cases r with
  | error e =>
    obtain ⟨_, _, _, _, _, _, _, _, _, _, _, _, z⟩ := (show L2.CX P w [] H s (fun _ _ _ => False) e s2 from done)
    exact z.elim
  | ok fl =>
    cases fl with
    | next => exact (show False from done).elim
    | brk => exact (show False from done).elim
    | cont => exact (show False from done).elim
    | ret u =>
      obtain ⟨v, H2, os2, bare2, un, hok2, rv, qv⟩ := (show CE [] P w H s _ u s2 from done)
      have ev : v = .bl true := qv
      subst ev
      obtain rfl : u = Value.bool true := rv
      refine ⟨rfl, OldK.of_keep fun b o e => ?_, os2, bare2⟩
      cases q : H b with
      | none => exact un.keep b o e q (by intro z; exact absurd (show b ∈ ([] : List Addr) from z) (by simp)) (by simp)
      | some u =>
        have eb := only b (by rw [q]; simp)
        subst eb
        obtain ⟨_, u', z⟩ := fz (by rw [q]; simp)
        have e2 := (show s2.heap.get? b = some ob ∧ _ from hok2 b _ (un.frzs b ob u' z)).1
        rw [at_] at e
        cases e
        exact e2
def scriptH (a : Addr) (o : Obj) (ns : List Int) : Hp := fun b => if b = a then some (.frz o (.lst (ns.map V.int))) else none
theorem scriptH_at {a : Addr} {o : Obj} {ns : List Int} : scriptH a o ns a = some (.frz o (.lst (ns.map V.int))) := if_pos rfl
abbrev D := PyData
def KTup (K : PySem.W.Frag) (a : Addr) (xs : List V) : Prop :=
  ∃ (o : Obj) (its : Array Value) (n : Nat), K.lookup a = some o ∧ o.cls = .type "tuple" ∧ o.data = .seq its n ∧ its.size ≤ sizeLine ∧ Vals xs its.toList
def KLst (K : PySem.W.Frag) (a : Addr) (xs : List V) : Prop :=
  ∃ (o : Obj) (its : Array Value) (n : Nat), K.lookup a = some o ∧ o.cls = .type "list" ∧ o.dict = none ∧ o.data = .seq its n ∧ its.size ≤ sizeLine ∧ Vals xs its.toList
def FqT (K : PySem.W.Frag) (F : Addr → Prop) (H : Hp) (a : Addr) (xs : List V) : Prop := (F a ∧ H a = some (.tup xs)) ∨ KTup K a xs
theorem FqT.sq {K : PySem.W.Frag} {F : Addr → Prop} {H : Hp} {a : Addr} {xs : List V} (h : FqT K F H a xs) : SqT K H a xs := by
  rcases h with ⟨_, h⟩ | h
  · exact .inl (.inl h)
  · exact .inr h
def kD : Key → D
  | .inl i => .int i
  | .inr x => .str x
mutual
inductive Fz (K : PySem.W.Frag) (F : Addr → Prop) (H : Hp) : V → D → Prop
  | non : Fz K F H .non .none
  | bl (b : Bool) : Fz K F H (.bl b) (.bool b)
  | int (i : Int) : Fz K F H (.int i) (.int i)
  | str (x : Str) : Fz K F H (.str x) (.str x)
  | lst {a : Addr} {xs : List V} {ds : List D} : F a → H a = some (.lst xs) → FzAll K F H xs ds → Fz K F H (.ref a) (.list ds)
  | tup {a : Addr} {xs : List V} {ds : List D} : FqT K F H a xs → FzAll K F H xs ds → Fz K F H (.ref a) (.tuple ds)
  | dct {a : Addr} {kvs : List (Key × V)} {es : List (D × D)} : F a → H a = some (.dK kvs) → FzKv K F H kvs es → Fz K F H (.ref a) (.dict es)
inductive FzAll (K : PySem.W.Frag) (F : Addr → Prop) (H : Hp) : List V → List D → Prop
  | nil : FzAll K F H [] []
  | cons {v : V} {vs : List V} {d : D} {ds : List D} : Fz K F H v d → FzAll K F H vs ds → FzAll K F H (v :: vs) (d :: ds)
inductive FzKv (K : PySem.W.Frag) (F : Addr → Prop) (H : Hp) : List (Key × V) → List (D × D) → Prop
  | nil : FzKv K F H [] []
  | cons {k : Key} {v : V} {vs : List (Key × V)} {d : D} {ds : List (D × D)} : Fz K F H v d → FzKv K F H vs ds → FzKv K F H ((k, v) :: vs) ((kD k, d) :: ds)
end
section
variable {K : PySem.W.Frag} {F F' : Addr → Prop} {H H' : Hp}
theorem FqT.ext {a : Addr} {xs : List V} (hs : ∀ a, F a → F' a) (he : ∀ a, F a → H' a = H a) (h : FqT K F H a xs) : FqT K F' H' a xs := by
  rcases h with ⟨h1, h2⟩ | h
  · exact .inl ⟨hs _ h1, (he _ h1).trans h2⟩
  · exact .inr h
mutual
theorem Fz.ext (hs : ∀ a, F a → F' a) (he : ∀ a, F a → H' a = H a) : ∀ (d : D) (v : V), Fz K F H v d → Fz K F' H' v d
  | .none, _, h => by cases h; exact .non
  | .bool b, _, h => by cases h; exact .bl b
  | .int i, _, h => by cases h; exact .int i
  | .str x, _, h => by cases h; exact .str x
  | .list ds, _, h => by
    cases h with
    | lst h1 h2 h3 => exact .lst (hs _ h1) ((he _ h1).trans h2) (FzAll.ext hs he ds _ h3)
  | .tuple ds, _, h => by
    cases h with
    | tup h1 h2 => exact .tup (h1.ext hs he) (FzAll.ext hs he ds _ h2)
  | .dict ds, _, h => by
    cases h with
    | dct h1 h2 h3 => exact .dct (hs _ h1) ((he _ h1).trans h2) (FzKv.ext hs he ds _ h3)
theorem FzAll.ext (hs : ∀ a, F a → F' a) (he : ∀ a, F a → H' a = H a) : ∀ (ds : List D) (vs : List V), FzAll K F H vs ds → FzAll K F' H' vs ds
  | [], _, h => by cases h; exact .nil
  | d :: ds, _, h => by
    cases h with
    | cons h1 h2 => exact .cons (Fz.ext hs he d _ h1) (FzAll.ext hs he ds _ h2)
theorem FzKv.ext (hs : ∀ a, F a → F' a) (he : ∀ a, F a → H' a = H a) : ∀ (ds : List (D × D)) (vs : List (Key × V)), FzKv K F H vs ds → FzKv K F' H' vs ds
  | [], _, h => by cases h; exact .nil
  | (_, d) :: ds, _, h => by
    cases h with
    | cons h1 h2 => exact .cons (Fz.ext hs he d _ h1) (FzKv.ext hs he ds _ h2)
end
theorem FzAll.len : ∀ {vs : List V} {ds : List D}, FzAll K F H vs ds → vs.length = ds.length
  | [], [], _ => rfl
  | _ :: _, _ :: _, .cons _ h => by rw [List.length_cons, List.length_cons, FzAll.len h]
theorem FzAll.get : ∀ {vs : List V} {ds : List D} {i : Nat} {d : D}, FzAll K F H vs ds → ds[i]? = some d → ∃ v, vs[i]? = some v ∧ Fz K F H v d
  | _, _, _, _, .nil, e => by simp at e
  | _ :: _, _ :: _, 0, _, .cons h _, e => by simp at e; subst e; exact ⟨_, rfl, h⟩
  | _ :: _, _ :: _, i + 1, d, .cons _ h, e => by
    obtain ⟨v, h1, h2⟩ := FzAll.get (i := i) (d := d) h (by simpa using e)
    exact ⟨v, by simpa using h1, h2⟩
theorem FzAll.set {v : V} {d : D} (r : Fz K F H v d) : ∀ {vs : List V} {ds : List D} (i : Nat), FzAll K F H vs ds → FzAll K F H (vs.set i v) (ds.set i d)
  | _, _, _, .nil => .nil
  | _, _, 0, .cons _ t => .cons r t
  | _, _, i + 1, .cons q t => .cons q (FzAll.set r i t)
theorem FzAll.append : ∀ {xs ys : List V} {ds es : List D}, FzAll K F H xs ds → FzAll K F H ys es → FzAll K F H (xs ++ ys) (ds ++ es)
  | _, _, _, _, .nil, s => s
  | _, _, _, _, .cons r t, s => .cons r (FzAll.append t s)
theorem FzAll.take : ∀ {xs : List V} {ds : List D} (n : Nat), FzAll K F H xs ds → FzAll K F H (xs.take n) (ds.take n)
  | _, _, 0, _ => .nil
  | _, _, _ + 1, .nil => .nil
  | _, _, n + 1, .cons r t => .cons r (FzAll.take n t)
theorem FzAll.drop : ∀ {xs : List V} {ds : List D} (n : Nat), FzAll K F H xs ds → FzAll K F H (xs.drop n) (ds.drop n)
  | _, _, 0, r => r
  | _, _, _ + 1, .nil => .nil
  | _, _, n + 1, .cons _ t => FzAll.drop n t
end
inductive MO where
  | lst (xs : List D) | dct (es : List (D × D)) | fz (x : D)
abbrev Store := List MO
inductive Ty where
  | int | bool | str | tup | lst | dct
  deriving DecidableEq
def Ty.name : Ty → String
  | .int => "int"
  | .bool => "bool"
  | .str => "str"
  | .tup => "tuple"
  | .lst => "list"
  | .dct => "dict"
inductive Vl where
  | d (x : D) | loc (n : Nat) | glo (x : Str) | ty (T : Ty) | tys (Ts : List Ty) | scr (xs : List Int)
abbrev Env := List (Option Vl)
structure Xn where
  cls : Str
  fs : List (Str × D)
inductive Res (α : Type) where
  | ok (a : α) (S : Store) | ex (e : Xn) (S : Store) | bad
def Res.bind {α β : Type} (r : Res α) (k : α → Store → Res β) : Res β := match r with
  | .ok a S => k a S
  | .ex e S => .ex e S
  | .bad => .bad
@[simp] theorem bind_ok {α β : Type} (a : α) (S : Store) (k : α → Store → Res β) : (Res.ok a S).bind k = k a S := rfl
@[simp] theorem bind_ex {α β : Type} (e : Xn) (S : Store) (k : α → Store → Res β) : (Res.ex e S : Res α).bind k = .ex e S := rfl
@[simp] theorem bind_bad {α β : Type} (k : α → Store → Res β) : (Res.bad : Res α).bind k = .bad := rfl
abbrev Ev := Env → Store → Res Vl
abbrev Tv := Env → Store → Res Bool
abbrev Av := Env → Store → Res (List Vl)
inductive SRes where
  | nx (ρ : Env) (S : Store) | ret (v : Vl) (S : Store) | bk (ρ : Env) (S : Store) | ct (ρ : Env) (S : Store) | ex (e : Xn) (ρ : Env) (S : Store) | bad
abbrev Sv := Env → Store → SRes
abbrev Fn := List Vl → Store → Res Vl
section
variable (K : PySem.W.Frag) (mg : Str → Option Value)
def MOk (F : Addr → Prop) (H : Hp) (a : Addr) : MO → Prop
  | .lst ds => ¬ F a ∧ ∃ xs, H a = some (.lst xs) ∧ FzAll K F H xs ds
  | .dct es => ¬ F a ∧ ∃ kvs, H a = some (.dK kvs) ∧ FzKv K F H kvs es
  | .fz x => Fz K F H (.ref a) x ∧ H a ≠ none
def MO.live : MO → Bool
  | .fz _ => false
  | _ => true
structure SG (φ : Nat → Addr) (F : Addr → Prop) (H : Hp) (S : Store) : Prop where
  dom : ∀ a, F a → H a ≠ none
  obj : ∀ i o, S[i]? = some o → MOk K F H (φ i) o
  inj : ∀ i j, i < S.length → j < S.length → φ i = φ j → i = j
structure Ext (n : Nat) (φ : Nat → Addr) (F : Addr → Prop) (H : Hp) (φ' : Nat → Addr) (F' : Addr → Prop) (H' : Hp) : Prop where
  sub : ∀ a, F a → F' a
  same : ∀ a, F a → H' a = H a
  loc : ∀ i, i < n → φ' i = φ i
def RepV (φ : Nat → Addr) (F : Addr → Prop) (H : Hp) (n : Nat) (v : V) : Vl → Prop
  | .d x => Fz K F H v x
  | .loc i => i < n ∧ v = .ref (φ i)
  | .glo x => ∃ u, mg x = some u ∧ RelV v u
  | .ty T => v = .ty T.name
  | .tys Ts => ∃ a, v = .ref a ∧ F a ∧ H a = some (.tup (Ts.map fun T => V.ty T.name))
  | .scr xs => ∃ a, v = .ref a ∧ ((F a ∧ ∃ o, H a = some (.frz o (.lst (xs.map V.int)))) ∨ KLst K a (xs.map V.int))
def RepVs (φ : Nat → Addr) (F : Addr → Prop) (H : Hp) (n : Nat) : List V → List Vl → Prop
  | [], [] => True
  | v :: vs, x :: xs => RepV K mg φ F H n v x ∧ RepVs φ F H n vs xs
  | _, _ => False
def Slots (φ : Nat → Addr) (F : Addr → Prop) (H : Hp) (n : Nat) (σ : L2.St) (ρ : Env) : Prop :=
  σ.length = ρ.length ∧ ∀ (i : Nat) (x : Vl), ρ[i]? = some (some x) → ∃ v, σ[i]? = some (some v) ∧ RepV K mg φ F H n v x
def RepX (F : Addr → Prop) (H : Hp) (c : Value) (od : Option Addr) (e : Xn) : Prop :=
  mg e.cls = some c ∧ match e.fs with
    | [] => od = none
    | fs => ∃ d vs, od = some d ∧ H d = some (.xd vs) ∧ vs.map (·.1) = fs.map (·.1) ∧ FzAll K F H (vs.map (·.2)) (fs.map (·.2))
structure Now (n : Nat) (φ : Nat → Addr) (F : Addr → Prop) (H : Hp) (φ' : Nat → Addr) (F' : Addr → Prop) (H' : Hp) (S' : Store) : Prop where
  ext : Ext n φ F H φ' F' H'
  sg : SG K φ' F' H' S'
  le : n ≤ S'.length
  rest : ∀ a, H a ≠ none → (∀ i, i < n → φ i ≠ a) → H' a = H a
  new : ∀ i, n ≤ i → i < S'.length → H (φ' i) = none
  fnew : ∀ a, F' a → F a ∨ H a = none ∨ ∃ i, i < n ∧ φ i = a
abbrev XW := Value → Option Addr → Hp → Prop
def PostG {α β : Type} (R : (Nat → Addr) → (Addr → Prop) → Hp → Nat → β → α → Prop) (W : XW) (n : Nat) (φ : Nat → Addr) (F : Addr → Prop) (H : Hp) (Q : β → Hp → Prop) : Res α → Prop
  | .ok v S' => ∀ φ' F' H', Now K n φ F H φ' F' H' S' → ∀ x, R φ' F' H' S'.length x v → Q x H'
  | .ex e S' => ∀ φ' F' H', Now K n φ F H φ' F' H' S' → ∀ c od, RepX K mg F' H' c od e → W c od H'
  | .bad => False
abbrev RepB : (Nat → Addr) → (Addr → Prop) → Hp → Nat → Bool → Bool → Prop := fun _ _ _ _ x v => x = v
abbrev Post : XW → Nat → (Nat → Addr) → (Addr → Prop) → Hp → VK → Res Vl → Prop := PostG K mg (RepV K mg)
abbrev PostT : XW → Nat → (Nat → Addr) → (Addr → Prop) → Hp → (Bool → Hp → Prop) → Res Bool → Prop := PostG K mg RepB
abbrev PostA : XW → Nat → (Nat → Addr) → (Addr → Prop) → Hp → (List V → Hp → Prop) → Res (List Vl) → Prop := PostG K mg (RepVs K mg)
def PostS (W : WX) (n : Nat) (φ : Nat → Addr) (F : Addr → Prop) (H : Hp) (E : Ends) : SRes → Prop
  | .nx ρ S' => ∀ φ' F' H', Now K n φ F H φ' F' H' S' → ∀ σ', Slots K mg φ' F' H' S'.length σ' ρ → E.nx σ' H'
  | .bk ρ S' => ∀ φ' F' H', Now K n φ F H φ' F' H' S' → ∀ σ', Slots K mg φ' F' H' S'.length σ' ρ → E.bk σ' H'
  | .ct ρ S' => ∀ φ' F' H', Now K n φ F H φ' F' H' S' → ∀ σ', Slots K mg φ' F' H' S'.length σ' ρ → E.ct σ' H'
  | .ret v S' => ∀ φ' F' H', Now K n φ F H φ' F' H' S' → ∀ x, RepV K mg φ' F' H' S'.length x v → E.rt x H'
  | .ex e ρ S' => ∀ φ' F' H', Now K n φ F H φ' F' H' S' → ∀ c od, RepX K mg F' H' c od e → ∀ σ', Slots K mg φ' F' H' S'.length σ' ρ → W c od σ' H'
  | .bad => False
def RE (W : WX) (f : Ev) : TE := fun σ H Q => ∃ φ F ρ S, SG K φ F H S ∧ Slots K mg φ F H S.length σ ρ ∧ Post K mg (fun c od H' => W c od σ H') S.length φ F H Q (f ρ S)
def RT (W : WX) (f : Tv) : TT := fun σ H Q => ∃ φ F ρ S, SG K φ F H S ∧ Slots K mg φ F H S.length σ ρ ∧ PostT K mg (fun c od H' => W c od σ H') S.length φ F H Q (f ρ S)
def RA (W : WX) (f : Av) : TA := fun σ H Q => ∃ φ F ρ S, SG K φ F H S ∧ Slots K mg φ F H S.length σ ρ ∧ PostA K mg (fun c od H' => W c od σ H') S.length φ F H Q (f ρ S)
def RS (W : WX) (f : Sv) : TS := fun E σ H => ∃ φ F ρ S, SG K φ F H S ∧ Slots K mg φ F H S.length σ ρ ∧ PostS K mg W S.length φ F H E (f ρ S)
def spF (g : Fn) : Sp := fun vs H Q E => ∃ φ F xs S, SG K φ F H S ∧ RepVs K mg φ F H S.length vs xs ∧ Post K mg E S.length φ F H Q (g xs S)
end
structure DE (X : Cx) (W : WX) (e : Expr) (f : Ev) : Prop where
  r : PE X e (RE X.K X.mg W f)
structure DT (X : Cx) (W : WX) (e : Expr) (f : Tv) : Prop where
  r : PT X e (RT X.K X.mg W f)
structure DW (X : Cx) (W : WX) (e : Expr) (f : Tv) : Prop where
  r : PW X e (RT X.K X.mg W f)
structure DA (X : Cx) (W : WX) (es : List Expr) (f : Av) : Prop where
  r : PA X es (RA X.K X.mg W f)
structure DS (X : Cx) (W : WX) (s : Stmt) (f : Sv) : Prop where
  r : PS X s (RS X.K X.mg W f)
structure DB (X : Cx) (W : WX) (ss : List Stmt) (f : Sv) : Prop where
  r : PSs X ss (RS X.K X.mg W f)
theorem PE.mono {X : Cx} {e : Expr} {t t' : TE} (h : PE X e t) (m : ∀ σ H Q, t' σ H Q → t σ H Q) : PE X e t' := ⟨fun pins s σ H Q I q => h.run pins s σ H Q I (m _ _ _ q)⟩
theorem PT.mono {X : Cx} {e : Expr} {t t' : TT} (h : PT X e t) (m : ∀ σ H Q, t' σ H Q → t σ H Q) : PT X e t' := ⟨fun pins s σ H Q I q => h.run pins s σ H Q I (m _ _ _ q)⟩
theorem PW.mono {X : Cx} {e : Expr} {t t' : TT} (h : PW X e t) (m : ∀ σ H Q, t' σ H Q → t σ H Q) : PW X e t' := ⟨fun w pins s σ H Q I q => h.run w pins s σ H Q I (m _ _ _ q)⟩
theorem PA.mono {X : Cx} {e : List Expr} {t t' : TA} (h : PA X e t) (m : ∀ σ H Q, t' σ H Q → t σ H Q) : PA X e t' := ⟨fun p pins s σ H Q I q => h.run p pins s σ H Q I (m _ _ _ q)⟩
theorem PS.mono {X : Cx} {e : Stmt} {t t' : TS} (h : PS X e t) (m : ∀ E σ H, t' E σ H → t E σ H) : PS X e t' := ⟨fun pins s σ H Q I q => h.run pins s σ H Q I (m _ _ _ q)⟩
theorem PSs.mono {X : Cx} {e : List Stmt} {t t' : TS} (h : PSs X e t) (m : ∀ E σ H, t' E σ H → t E σ H) : PSs X e t' := ⟨fun pins s σ H Q I q => h.run pins s σ H Q I (m _ _ _ q)⟩
section
variable {K : PySem.W.Frag} {mg : Str → Option Value} {φ φ' φ1 φ2 : Nat → Addr} {F F' F1 F2 : Addr → Prop} {H H' H1 H2 : Hp} {n n' m : Nat} {S S' S1 : Store}
theorem Ext.refl : Ext n φ F H φ F H := ⟨fun _ h => h, fun _ _ => rfl, fun _ _ => rfl⟩
theorem Ext.trans (a : Ext n φ F H φ1 F1 H1) (b : Ext m φ1 F1 H1 φ2 F2 H2) (h : n ≤ m) : Ext n φ F H φ2 F2 H2 :=
  ⟨fun x q => b.sub x (a.sub x q), fun x q => (b.same x (a.sub x q)).trans (a.same x q), fun i q => (b.loc i (Nat.lt_of_lt_of_le q h)).trans (a.loc i q)⟩
theorem Now.refl (g : SG K φ F H S) : Now K S.length φ F H φ F H S := ⟨.refl, g, Nat.le_refl _, fun _ _ _ => rfl, fun i h1 h2 => absurd h2 (Nat.not_lt.mpr h1), fun _ h => .inl h⟩
theorem RepV.ext {v : V} {x : Vl} (e : Ext n φ F H φ' F' H') (h : n ≤ m) (r : RepV K mg φ F H n v x) : RepV K mg φ' F' H' m v x := by
  cases x with
  | d x => exact Fz.ext e.sub e.same x v r
  | loc i => exact ⟨Nat.lt_of_lt_of_le r.1 h, by rw [e.loc i r.1]; exact r.2⟩
  | glo x => exact r
  | ty T => exact r
  | tys T =>
    obtain ⟨a, h1, h2, h3⟩ := r
    exact ⟨a, h1, e.sub _ h2, (e.same _ h2).trans h3⟩
  | scr xs =>
    obtain ⟨a, h1, h2⟩ := r
    refine ⟨a, h1, h2.imp (fun ⟨h3, o, h4⟩ => ⟨e.sub _ h3, o, (e.same _ h3).trans h4⟩) id⟩
theorem RepVs.ext (e : Ext n φ F H φ' F' H') (h : n ≤ m) : ∀ {vs : List V} {xs : List Vl}, RepVs K mg φ F H n vs xs → RepVs K mg φ' F' H' m vs xs
  | [], [], _ => trivial
  | _ :: _, _ :: _, r => ⟨r.1.ext e h, RepVs.ext e h r.2⟩
theorem RepVs.len : ∀ {vs : List V} {xs : List Vl}, RepVs K mg φ F H n vs xs → vs.length = xs.length
  | [], [], _ => rfl
  | _ :: _, _ :: _, r => by rw [List.length_cons, List.length_cons, RepVs.len r.2]
theorem Slots.ext {σ : L2.St} {ρ : Env} (e : Ext n φ F H φ' F' H') (h : n ≤ m) (r : Slots K mg φ F H n σ ρ) : Slots K mg φ' F' H' m σ ρ :=
  ⟨r.1, fun i x q => let ⟨v, h1, h2⟩ := r.2 i x q; ⟨v, h1, h2.ext e h⟩⟩
theorem Slots.now {σ : L2.St} {ρ : Env} (e : Now K n φ F H φ' F' H' S') (r : Slots K mg φ F H n σ ρ) : Slots K mg φ' F' H' S'.length σ ρ := r.ext e.ext e.le
theorem RepV.now {v : V} {x : Vl} (e : Now K n φ F H φ' F' H' S') (r : RepV K mg φ F H n v x) : RepV K mg φ' F' H' S'.length v x := r.ext e.ext e.le
theorem Slots.set {σ : L2.St} {ρ : Env} {i : Nat} {v : V} {x : Vl} (r : Slots K mg φ F H n σ ρ) (q : RepV K mg φ F H n v x) : Slots K mg φ F H n (σ.set i (some v)) (ρ.set i (some x)) := by
  refine ⟨by rw [List.length_set, List.length_set]; exact r.1, fun j y hj => ?_⟩
  by_cases e : i = j
  · subst e
    by_cases hl : i < ρ.length
    · rw [List.getElem?_set_self hl] at hj
      cases hj
      exact ⟨v, by rw [List.getElem?_set_self (by rw [r.1]; exact hl)], q⟩
    · rw [List.getElem?_eq_none (by simpa using hl)] at hj
      cases hj
  · rw [List.getElem?_set_ne e] at hj
    obtain ⟨w, h1, h2⟩ := r.2 j y hj
    exact ⟨w, by rw [List.getElem?_set_ne e]; exact h1, h2⟩
theorem Slots.weak {σ : L2.St} {ρ ρ' : Env} (r : Slots K mg φ F H n σ ρ) (hl : ρ'.length = ρ.length) (h : ∀ (i : Nat) (x : Vl), ρ'[i]? = some (some x) → ρ[i]? = some (some x)) : Slots K mg φ F H n σ ρ' :=
  ⟨r.1.trans hl.symm, fun i x q => r.2 i x (h i x q)⟩
theorem MOk.ext {a : Addr} {o : MO} (hs : ∀ a, F a → F' a) (he : ∀ a, F a → H' a = H a) (hn : o.live = true → ¬ F a → ¬ F' a) (ha : H' a = H a) (h : MOk K F H a o) : MOk K F' H' a o := by
  cases o with
  | lst ds =>
    obtain ⟨h1, xs, h2, h3⟩ := h
    exact ⟨hn rfl h1, xs, ha.trans h2, h3.ext hs he⟩
  | dct es =>
    obtain ⟨h1, xs, h2, h3⟩ := h
    exact ⟨hn rfl h1, xs, ha.trans h2, h3.ext hs he⟩
  | fz x => exact ⟨h.1.ext hs he, by rw [ha]; exact h.2⟩
theorem MOk.there {a : Addr} {o : MO} (h : MOk K F H a o) : H a ≠ none ∧ (o.live = true → ¬ F a) := by
  cases o with
  | lst ds =>
    obtain ⟨h1, xs, h2, h3⟩ := h
    exact ⟨by rw [h2]; simp, fun _ => h1⟩
  | dct es =>
    obtain ⟨h1, xs, h2, h3⟩ := h
    exact ⟨by rw [h2]; simp, fun _ => h1⟩
  | fz x => exact ⟨h.2, fun h => nomatch h⟩
theorem SG.at (g : SG K φ F H S) {i : Nat} (h : i < S.length) : H (φ i) ≠ none := (g.obj i _ (List.getElem?_eq_getElem h)).there.1
theorem SG.neAt (g : SG K φ F H S) {i : Nat} {p : Addr} (h : i < S.length) (hp : H p = none) : φ i ≠ p := fun e => g.at h (e ▸ hp)
theorem Now.trans (g : SG K φ F H S) (a : Now K S.length φ F H φ1 F1 H1 S1) (b : Now K S1.length φ1 F1 H1 φ2 F2 H2 S') : Now K S.length φ F H φ2 F2 H2 S' := by
  have nf : ∀ i x, S.length ≤ i → i < S1.length → H x ≠ none → φ1 i ≠ x := fun i x h1 h2 h3 e => h3 (e ▸ a.new i h1 h2)
  have rest : ∀ x, H x ≠ none → (∀ i, i < S.length → φ i ≠ x) → H2 x = H x := fun x hx hn => by
    have e1 := a.rest x hx hn
    refine (b.rest x (by rw [e1]; exact hx) fun i hi => ?_).trans e1
    by_cases hl : i < S.length
    · rw [a.ext.loc i hl]; exact hn i hl
    · exact nf i x (Nat.not_lt.mp hl) hi hx
  refine ⟨a.ext.trans b.ext a.le, b.sg, Nat.le_trans a.le b.le, rest, fun i h1 h2 => ?_, fun x hx => ?_⟩
  rotate_left
  · rcases b.fnew x hx with h | h | ⟨i, hi, e⟩
    · exact a.fnew x h
    · cases q : H x with
      | none => exact .inr (.inl rfl)
      | some o =>
        refine .inr (.inr ?_)
        by_cases ex : ∃ j, j < S.length ∧ φ j = x
        · exact ex
        · have e1 := a.rest x (by rw [q]; simp) fun j hj e => ex ⟨j, hj, e⟩
          rw [e1, q] at h
          cases h
    · by_cases hl : i < S.length
      · exact .inr (.inr ⟨i, hl, by rw [← a.ext.loc i hl]; exact e⟩)
      · exact .inr (.inl (e ▸ a.new i (Nat.not_lt.mp hl) hi))
  by_cases hl : i < S1.length
  · rw [b.ext.loc i hl]; exact a.new i h1 hl
  · have hn := b.new i (Nat.not_lt.mp hl) h2
    cases q : H (φ2 i) with
    | none => rfl
    | some o =>
      by_cases ex : ∃ j, j < S.length ∧ φ j = φ2 i
      · obtain ⟨j, hj, e⟩ := ex
        exact absurd hn (by rw [← e, ← a.ext.loc j hj]; exact a.sg.at (Nat.lt_of_lt_of_le hj a.le))
      · have e1 := a.rest (φ2 i) (by rw [q]; simp) fun j hj e => ex ⟨j, hj, e⟩
        rw [e1, q] at hn
        cases hn
theorem SG.fresh (g : SG K φ F H S) {p : Addr} {o : HO} (hp : H p = none) : Now K S.length φ F H φ (fun a => F a ∨ a = p) (upd H p o) S := by
  have same : ∀ a, F a → upd H p o a = H a := fun a h => upd_ne fun e => g.dom a h (e ▸ hp)
  refine ⟨⟨fun _ h => .inl h, same, fun _ _ => rfl⟩, ⟨fun a h => ?_, fun i o' h => ?_, g.inj⟩, Nat.le_refl _, fun a ha _ => upd_ne fun e => ha (e ▸ hp), fun i h1 h2 => absurd h2 (Nat.not_lt.mpr h1), fun a (h : F a ∨ a = p) => h.imp id fun e => .inl (by rw [e]; exact hp)⟩
  · rcases h with h | h
    · rw [same a h]; exact g.dom a h
    · subst h; rw [upd_same]; simp
  · have hi : i < S.length := (List.getElem?_eq_some_iff.mp h).1
    have hne := g.neAt hi hp
    exact (g.obj i o' h).ext (fun _ h => .inl h) same (fun _ h1 h2 => h2.elim h1 hne) (upd_ne hne)
theorem SG.newLoc (g : SG K φ F H S) {p : Addr} {o : HO} {mo : MO} (hp : H p = none) (hm : (¬ F p → (∀ a, F a → upd H p o a = H a) → MOk K F (upd H p o) p mo)) :
    Now K S.length φ F H (fun i => if i = S.length then p else φ i) F (upd H p o) (S ++ [mo]) := by
  have same : ∀ a, F a → upd H p o a = H a := fun a h => upd_ne fun e => g.dom a h (e ▸ hp)
  have nf : ¬ F p := fun h => g.dom p h hp
  refine ⟨⟨fun _ h => h, same, fun i h => if_neg (Nat.ne_of_lt h)⟩, ⟨fun a h => ?_, fun i o' h => ?_, fun i j hi hj e => ?_⟩, by simp, fun a ha _ => upd_ne fun e => ha (e ▸ hp), fun i h1 h2 => ?_, fun _ h => .inl h⟩
  · rw [same a h]; exact g.dom a h
  · by_cases hi : i = S.length
    · subst hi
      rw [List.getElem?_append_right (Nat.le_refl _), Nat.sub_self] at h
      cases h
      simp only [if_true]
      exact hm nf same
    · have hl : i < S.length := by
        have := (List.getElem?_eq_some_iff.mp h).1
        rw [List.length_append] at this
        simp at this
        omega
      rw [List.getElem?_append_left hl] at h
      simp only [if_neg hi]
      exact (g.obj i o' h).ext (fun _ h => h) same (fun _ h => h) (upd_ne (g.neAt hl hp))
  · simp only [List.length_append, List.length_singleton] at hi hj
    by_cases h1 : i = S.length <;> by_cases h2 : j = S.length
    · omega
    · simp only [h1, h2, if_true, if_false] at e
      exact absurd e.symm (g.neAt (by omega) hp)
    · simp only [h1, h2, if_true, if_false] at e
      exact absurd e (g.neAt (by omega) hp)
    · simp only [h1, h2, if_false] at e
      exact g.inj i j (by omega) (by omega) e
  · have e : i = S.length := by
      rw [List.length_append, List.length_singleton] at h2
      omega
    simp only [if_pos e]
    exact hp
theorem SG.write (g : SG K φ F H S) {i : Nat} {o : HO} {mo m0 : MO} (h0 : S[i]? = some m0) (hv : m0.live = true) (hm : ¬ F (φ i) → (∀ a, F a → upd H (φ i) o a = H a) → MOk K F (upd H (φ i) o) (φ i) mo) :
    Now K S.length φ F H φ F (upd H (φ i) o) (S.set i mo) := by
  have hi : i < S.length := (List.getElem?_eq_some_iff.mp h0).1
  have nf := (g.obj i _ h0).there.2 hv
  have same : ∀ a, F a → upd H (φ i) o a = H a := fun a h => upd_ne fun e => nf (e ▸ h)
  refine ⟨⟨fun _ h => h, same, fun _ _ => rfl⟩, ⟨fun a h => ?_, fun j o' h => ?_, fun j k hj hk e => ?_⟩, by simp, fun a _ hn => upd_ne fun e => hn i hi e.symm, fun j h1 h2 => absurd h2 (by rw [List.length_set]; exact Nat.not_lt.mpr h1), fun _ h => .inl h⟩
  · rw [same a h]; exact g.dom a h
  · by_cases hj : i = j
    · subst hj
      rw [List.getElem?_set_self hi] at h
      cases h
      exact hm nf same
    · rw [List.getElem?_set_ne hj] at h
      have hl := (List.getElem?_eq_some_iff.mp h).1
      exact (g.obj j o' h).ext (fun _ h => h) same (fun _ h => h) (upd_ne fun e => hj (g.inj j i hl hi e).symm)
  · rw [List.length_set] at hj hk
    exact g.inj j k hj hk e
theorem SG.freeze (g : SG K φ F H S) {i : Nat} {m0 : MO} {x : D} (h0 : S[i]? = some m0) (hm : Fz K (fun a => F a ∨ a = φ i) H (.ref (φ i)) x) : Now K S.length φ F H φ (fun a => F a ∨ a = φ i) H (S.set i (.fz x)) := by
  have hi : i < S.length := (List.getElem?_eq_some_iff.mp h0).1
  refine ⟨⟨fun _ h => .inl h, fun _ _ => rfl, fun _ _ => rfl⟩, ⟨fun a h => ?_, fun j o' h => ?_, fun j k hj hk e => ?_⟩, by simp, fun _ _ _ => rfl, fun j h1 h2 => absurd h2 (by rw [List.length_set]; exact Nat.not_lt.mpr h1), fun a (h : F a ∨ a = φ i) => h.imp id fun e => .inr ⟨i, hi, e.symm⟩⟩
  · rcases h with h | h
    · exact g.dom a h
    · subst h; exact g.at hi
  · by_cases hj : i = j
    · subst hj
      rw [List.getElem?_set_self hi] at h
      cases h
      exact ⟨hm, g.at hi⟩
    · rw [List.getElem?_set_ne hj] at h
      have hl := (List.getElem?_eq_some_iff.mp h).1
      exact (g.obj j o' h).ext (fun _ h => .inl h) (fun _ _ => rfl) (fun _ h h2 => h2.elim h fun e => hj (g.inj j i hl hi e).symm) rfl
  · rw [List.length_set] at hj hk
    exact g.inj j k hj hk e
theorem Now.priv {p : Addr} (nw : Now K n φ F H φ' F' H' S') (h : H p ≠ none) (nf : ¬ F p) (ns : ∀ i, i < n → φ i ≠ p) : H' p = H p ∧ ¬ F' p ∧ ∀ i, i < S'.length → φ' i ≠ p := by
  refine ⟨nw.rest p h ns, fun q => ?_, fun i hi e => ?_⟩
  · rcases nw.fnew p q with z | z | ⟨i, hi, e⟩
    · exact nf z
    · exact h z
    · exact ns i hi e
  · by_cases hl : i < n
    · exact ns i hl (by rw [← nw.ext.loc i hl]; exact e)
    · exact h (e ▸ nw.new i (Nat.not_lt.mp hl) hi)
theorem SG.other {p : Addr} {o : HO} (g : SG K φ F H S) (nf : ¬ F p) (ns : ∀ i, i < S.length → φ i ≠ p) : SG K φ F (upd H p o) S := by
  have same : ∀ a, F a → upd H p o a = H a := fun a h => upd_ne fun e => nf (e ▸ h)
  refine ⟨fun a h => by rw [same a h]; exact g.dom a h, fun i m hm => ?_, g.inj⟩
  exact (g.obj i m hm).ext (fun _ h => h) same (fun _ h => h) (upd_ne (ns i (List.getElem?_eq_some_iff.mp hm).1))
theorem Now.other {p : Addr} {o : HO} (nw : Now K n φ F H φ' F' H' S') (h : H p = none) (hF : ∀ a, F a → H a ≠ none) (nf : ¬ F' p) (ns : ∀ i, i < S'.length → φ' i ≠ p) : Now K n φ F H φ' F' (upd H' p o) S' :=
  ⟨⟨nw.ext.sub, fun a ha => (upd_ne fun e => hF a ha (by rw [e]; exact h)).trans (nw.ext.same a ha), nw.ext.loc⟩, nw.sg.other nf ns, nw.le, fun a ha hn => (upd_ne fun e => ha (by rw [e]; exact h)).trans (nw.rest a ha hn), nw.new, nw.fnew⟩
theorem Now.take {p : Addr} (nw : Now K n φ F H φ' F' H' S') (h : H p = none) (hp : H' p ≠ none) (ns : ∀ i, i < S'.length → φ' i ≠ p) : Now K n φ F H φ' (fun a => F' a ∨ a = p) H' S' :=
  ⟨⟨fun a ha => .inl (nw.ext.sub a ha), nw.ext.same, nw.ext.loc⟩, ⟨fun a ha => ha.elim (nw.sg.dom a) fun e => e ▸ hp, fun i m hm => (nw.sg.obj i m hm).ext (fun _ z => .inl z) (fun _ _ => rfl) (fun _ z q => q.elim z (ns i (List.getElem?_eq_some_iff.mp hm).1)) rfl, nw.sg.inj⟩, nw.le, nw.rest, nw.new,
    fun a ha => ha.elim (nw.fnew a) fun e => .inr (.inl (e ▸ h))⟩
theorem Now.keep {p : Addr} {mo : MO} (nw : Now K n φ F H φ' F' H' S') (h : H p = none) (ns : ∀ i, i < S'.length → φ' i ≠ p) (hm : MOk K F' H' p mo) : Now K n φ F H (fun i => if i = S'.length then p else φ' i) F' H' (S' ++ [mo]) := by
  refine ⟨⟨nw.ext.sub, nw.ext.same, fun i hi => ?_⟩, ⟨nw.sg.dom, fun i m hi => ?_, fun i j hi hj e => ?_⟩, ?_, nw.rest, fun i h1 h2 => ?_, nw.fnew⟩
  · show (if i = S'.length then p else φ' i) = φ i
    rw [if_neg (Nat.ne_of_lt (Nat.lt_of_lt_of_le hi nw.le))]
    exact nw.ext.loc i hi
  · by_cases he : i = S'.length
    · subst he
      rw [List.getElem?_append_right (Nat.le_refl _), Nat.sub_self] at hi
      cases hi
      simp only [if_true]
      exact hm
    · have hl := (List.getElem?_eq_some_iff.mp hi).1
      rw [List.length_append, List.length_singleton] at hl
      rw [List.getElem?_append_left (by omega)] at hi
      simp only [if_neg he]
      exact nw.sg.obj i m hi
  · rw [List.length_append, List.length_singleton] at hi hj
    by_cases h1 : i = S'.length <;> by_cases h2 : j = S'.length
    · omega
    · simp only [h1, h2, if_true, if_false] at e
      exact absurd e.symm (ns j (by omega))
    · simp only [h1, h2, if_true, if_false] at e
      exact absurd e (ns i (by omega))
    · simp only [h1, h2, if_false] at e
      exact nw.sg.inj i j (by omega) (by omega) e
  · rw [List.length_append]
    exact Nat.le_trans nw.le (Nat.le_add_right _ _)
  · rw [List.length_append, List.length_singleton] at h2
    by_cases he : i = S'.length
    · simp only [if_pos he]; exact h
    · simp only [if_neg he]; exact nw.new i h1 (by omega)
theorem SG.take (g : SG K φ F H S) (n : Nat) : SG K φ F H (S.take n) :=
  ⟨g.dom, fun i o h => g.obj i o (by
    have hl := (List.getElem?_eq_some_iff.mp h).1
    rw [List.length_take] at hl
    rw [List.getElem?_take_of_lt (by omega)] at h
    exact h), fun i j hi hj e => g.inj i j (by rw [List.length_take] at hi; omega) (by rw [List.length_take] at hj; omega) e⟩
theorem PostG.start {α β : Type} {R : (Nat → Addr) → (Addr → Prop) → Hp → Nat → β → α → Prop} {W : XW} {Q : β → Hp → Prop} {r : Res α} (g : SG K φ F H S) (e : Now K S.length φ F H φ1 F1 H1 S1) (p : PostG K mg R W S.length φ F H Q r) : PostG K mg R W S1.length φ1 F1 H1 Q r := by
  cases r with
  | ok v S' => exact fun φ' F' H' nw x rx => p φ' F' H' (Now.trans g e nw) x rx
  | ex x S' => exact fun φ' F' H' nw c od rx => p φ' F' H' (Now.trans g e nw) c od rx
  | bad => exact p
theorem PostG.bind {α β α' β' : Type} {R : (Nat → Addr) → (Addr → Prop) → Hp → Nat → β → α → Prop} {R' : (Nat → Addr) → (Addr → Prop) → Hp → Nat → β' → α' → Prop} {W : XW} {Q : β → Hp → Prop} {Q' : β' → Hp → Prop} {r : Res α'} {k : α' → Store → Res α}
    (g : SG K φ F H S) (p : PostG K mg R W S.length φ F H Q (r.bind k)) (h : ∀ φ1 F1 H1 S1 v x, Now K S.length φ F H φ1 F1 H1 S1 → R' φ1 F1 H1 S1.length x v → PostG K mg R W S1.length φ1 F1 H1 Q (k v S1) → Q' x H1) : PostG K mg R' W S.length φ F H Q' r := by
  cases r with
  | ok v S' => exact fun φ' F' H' nw x rx => h _ _ _ _ _ _ nw rx (PostG.start g nw p)
  | ex x S' => exact p
  | bad => exact p
theorem PostG.mono {α β : Type} {R : (Nat → Addr) → (Addr → Prop) → Hp → Nat → β → α → Prop} {W : XW} {Q Q' : β → Hp → Prop} {r : Res α} (p : PostG K mg R W n φ F H Q r) (h : ∀ x H', Q x H' → Q' x H') : PostG K mg R W n φ F H Q' r := by
  cases r with
  | ok v S' => exact fun φ' F' H' nw x rx => h _ _ (p φ' F' H' nw x rx)
  | ex x S' => exact p
  | bad => exact p
theorem PostS.start {W : WX} {E : Ends} {r : SRes} (g : SG K φ F H S) (e : Now K S.length φ F H φ1 F1 H1 S1) (p : PostS K mg W S.length φ F H E r) : PostS K mg W S1.length φ1 F1 H1 E r := by
  cases r with
  | nx ρ S' => exact fun φ' F' H' nw x rx => p φ' F' H' (Now.trans g e nw) x rx
  | bk ρ S' => exact fun φ' F' H' nw x rx => p φ' F' H' (Now.trans g e nw) x rx
  | ct ρ S' => exact fun φ' F' H' nw x rx => p φ' F' H' (Now.trans g e nw) x rx
  | ret v S' => exact fun φ' F' H' nw x rx => p φ' F' H' (Now.trans g e nw) x rx
  | ex x ρ S' => exact fun φ' F' H' nw c od rx => p φ' F' H' (Now.trans g e nw) c od rx
  | bad => exact p
theorem Post.ok {W : XW} {Q : VK} {v : Vl} {x : V} (g : SG K φ F H S) (p : Post K mg W S.length φ F H Q (.ok v S)) (r : RepV K mg φ F H S.length x v) : Q x H := p φ F H (.refl g) x r
theorem PostT.ok {W : XW} {Q : Bool → Hp → Prop} {b : Bool} (g : SG K φ F H S) (p : PostT K mg W S.length φ F H Q (.ok b S)) : Q b H := p φ F H (.refl g) b rfl
theorem Post.newT {W : XW} {Q : VK} {xs : List V} {ds : List D} (g : SG K φ F H S) (r : FzAll K F H xs ds) (p : Post K mg W S.length φ F H Q (.ok (.d (.tuple ds)) S)) : ∀ a, H a = none → Q (.ref a) (upd H a (.tup xs)) := fun a ha => by
  have nw := g.fresh (o := .tup xs) ha
  exact p _ _ _ nw _ (.tup (.inl ⟨.inr rfl, upd_same⟩) (r.ext nw.ext.sub nw.ext.same))
end
def mkL (m : Bool) (ds : List D) (S : Store) : Res Vl := if m then .ok (.loc S.length) (S ++ [.lst ds]) else .ok (.d (.list ds)) S
def mkK (m : Bool) (es : List (D × D)) (S : Store) : Res Vl := if m then .ok (.loc S.length) (S ++ [.dct es]) else .ok (.d (.dict es)) S
section
variable {K : PySem.W.Frag} {mg : Str → Option Value} {φ φ' φ1 φ2 : Nat → Addr} {F F' F1 F2 : Addr → Prop} {H H' H1 H2 : Hp} {n n' m : Nat} {S S' S1 : Store}
theorem Post.newL {W : XW} {Q : VK} {m : Bool} {xs : List V} {ds : List D} (g : SG K φ F H S) (r : FzAll K F H xs ds) (p : Post K mg W S.length φ F H Q (mkL m ds S)) : ∀ a, H a = none → Q (.ref a) (upd H a (.lst xs)) := fun a ha => by
  cases m with
  | true =>
    have nw := g.newLoc (o := .lst xs) (mo := .lst ds) ha fun nf same => ⟨nf, xs, upd_same, r.ext (fun _ h => h) same⟩
    exact p _ _ _ nw _ ⟨by simp, by simp⟩
  | false =>
    have nw := g.fresh (o := .lst xs) ha
    exact p _ _ _ nw _ (.lst (.inr rfl) upd_same (r.ext nw.ext.sub nw.ext.same))
theorem Post.newK {W : XW} {Q : VK} {m : Bool} {xs : List (Key × V)} {ds : List (D × D)} (g : SG K φ F H S) (r : FzKv K F H xs ds) (p : Post K mg W S.length φ F H Q (mkK m ds S)) : ∀ a, H a = none → Q (.ref a) (upd H a (.dK xs)) := fun a ha => by
  cases m with
  | true =>
    have nw := g.newLoc (o := .dK xs) (mo := .dct ds) ha fun nf same => ⟨nf, xs, upd_same, r.ext (fun _ h => h) same⟩
    exact p _ _ _ nw _ ⟨by simp, by simp⟩
  | false =>
    have nw := g.fresh (o := .dK xs) ha
    exact p _ _ _ nw _ (.dct (.inr rfl) upd_same (r.ext nw.ext.sub nw.ext.same))
end
structure Cc (X : Cx) (W : WX) (k : Nat) : Prop where
  calm : X.calm = true
  nd : X.N.Nodup
  tk : Takes X W
  rm : Room k X.A
  po : PassesOwn (model X.prog X.w) X.A X.env X.xe
  gd : X.A.guards = some []
abbrev W0 : WX := fun _ _ _ _ => False
theorem Cc.blk {X : Cx} {W : WX} {k : Nat} (c : Cc X W k) {s : Shared} {H : Hp} {scope : Scope} {cenv : PySem.Env} {fp : List Addr} : Cc (X.blk s H scope cenv fp) W0 k := ⟨c.calm, c.nd, takes0, c.rm, PassesOwn.never, c.gd⟩
def view (S : Store) : Vl → Option D
  | .d x => some x
  | .loc i => match S[i]? with
    | some (.lst ds) => some (.list ds)
    | some (.dct es) => some (.dict es)
    | some (.fz x) => some x
    | none => none
  | _ => none
@[simp] theorem view_d (S : Store) (x : D) : view S (.d x) = some x := rfl
def fr (v : Vl) (S : Store) : Res D := match v with
  | .d x => .ok x S
  | .loc i => match S[i]? with
    | some (.lst ds) => .ok (.list ds) (S.set i (.fz (.list ds)))
    | some (.dct es) => .ok (.dict es) (S.set i (.fz (.dict es)))
    | some (.fz x) => .ok x S
    | none => .bad
  | _ => .bad
@[simp] theorem fr_d (S : Store) (x : D) : fr (.d x) S = .ok x S := rfl
def frs : List Vl → Store → Res (List D)
  | [], S => .ok [] S
  | v :: vs, S => (fr v S).bind fun x S1 => (frs vs S1).bind fun xs S2 => .ok (x :: xs) S2
@[simp] theorem frs_nil (S : Store) : frs [] S = .ok [] S := rfl
@[simp] theorem frs_d (x : D) (vs : List Vl) (S : Store) : frs (.d x :: vs) S = (frs vs S).bind fun xs S2 => .ok (x :: xs) S2 := rfl
def Ob (K : PySem.W.Frag) (F : Addr → Prop) (H : Hp) (x : V) : D → Prop
  | .none => x = .non
  | .bool b => x = .bl b
  | .int i => x = .int i
  | .str z => x = .str z
  | .list ds => ∃ a xs, x = .ref a ∧ H a = some (.lst xs) ∧ FzAll K F H xs ds
  | .tuple ds => ∃ a xs, x = .ref a ∧ FqT K F H a xs ∧ FzAll K F H xs ds
  | .dict es => ∃ a kvs, x = .ref a ∧ H a = some (.dK kvs) ∧ FzKv K F H kvs es
section
variable {K : PySem.W.Frag} {mg : Str → Option Value} {φ φ' φ1 φ2 : Nat → Addr} {F F' F1 F2 : Addr → Prop} {H H' H1 H2 : Hp} {n n' m : Nat} {S S' S1 : Store}
theorem Fz.ob {x : V} {d : D} (h : Fz K F H x d) : Ob K F H x d := by
  cases h with
  | non => rfl
  | bl b => rfl
  | int i => rfl
  | str z => rfl
  | lst h1 h2 h3 => exact ⟨_, _, rfl, h2, h3⟩
  | tup h1 h2 => exact ⟨_, _, rfl, h1, h2⟩
  | dct h1 h2 h3 => exact ⟨_, _, rfl, h2, h3⟩
theorem ob_of {x : V} {v : Vl} {d : D} (g : SG K φ F H S) (r : RepV K mg φ F H n x v) (e : view S v = some d) : Ob K F H x d := by
  cases v with
  | d y => cases e; exact Fz.ob r
  | loc i =>
    obtain ⟨_, rfl⟩ := r
    cases q : S[i]? with
    | none => simp only [view, q] at e; cases e
    | some mo =>
      simp only [view, q] at e
      have o := g.obj i _ q
      cases mo with
      | lst ds =>
        cases e
        obtain ⟨_, xs, h1, h2⟩ := o
        exact ⟨_, _, rfl, h1, h2⟩
      | dct ds =>
        cases e
        obtain ⟨_, xs, h1, h2⟩ := o
        exact ⟨_, _, rfl, h1, h2⟩
      | fz y =>
        cases e
        exact o.1.ob
  | glo y => cases e
  | ty y => cases e
  | tys y => cases e
  | scr y => cases e
theorem FzKv.len : ∀ {vs : List (Key × V)} {ds : List (D × D)}, FzKv K F H vs ds → vs.length = ds.length
  | _, _, .nil => rfl
  | _, _, .cons _ h => by rw [List.length_cons, List.length_cons, FzKv.len h]
theorem fr_ok {x : V} {v : Vl} (g : SG K φ F H S) (r : RepV K mg φ F H S.length x v) (p : fr v S ≠ .bad) :
    ∃ φ' F' S' d, Now K S.length φ F H φ' F' H S' ∧ Fz K F' H x d ∧ fr v S = .ok d S' := by
  cases v with
  | d y => exact ⟨φ, F, S, y, .refl g, r, rfl⟩
  | loc i =>
    obtain ⟨hi, rfl⟩ := r
    cases q : S[i]? with
    | none => exact absurd hi (by simpa using q)
    | some mo =>
      cases mo with
      | lst ds =>
        obtain ⟨h0, xs, h1, h2⟩ := g.obj i _ q
        have f := Fz.lst (K := K) (F := fun a => F a ∨ a = φ i) (H := H) (.inr rfl) h1 (h2.ext (fun _ h => .inl h) fun _ _ => rfl)
        exact ⟨φ, _, _, .list ds, g.freeze q f, f, by simp only [fr, q]⟩
      | dct ds =>
        obtain ⟨h0, xs, h1, h2⟩ := g.obj i _ q
        have f := Fz.dct (K := K) (F := fun a => F a ∨ a = φ i) (H := H) (.inr rfl) h1 (h2.ext (fun _ h => .inl h) fun _ _ => rfl)
        exact ⟨φ, _, _, .dict ds, g.freeze q f, f, by simp only [fr, q]⟩
      | fz y => exact ⟨φ, F, S, y, .refl g, (g.obj i _ q).1, by simp only [fr, q]⟩
  | glo y => exact (p rfl).elim
  | ty y => exact (p rfl).elim
  | tys y => exact (p rfl).elim
  | scr y => exact (p rfl).elim
theorem PostG.ok_of {α β : Type} {R : (Nat → Addr) → (Addr → Prop) → Hp → Nat → β → α → Prop} {W : XW} {Q : β → Hp → Prop} {r : Res α} {v : α} {x : β} (p : PostG K mg R W n φ F H Q r) (e : r = .ok v S') (nw : Now K n φ F H φ' F' H' S') (q : R φ' F' H' S'.length x v) : Q x H' := by
  subst e
  exact p _ _ _ nw _ q
theorem frs_ok {α β : Type} {R : (Nat → Addr) → (Addr → Prop) → Hp → Nat → β → α → Prop} {W : XW} {Q : β → Hp → Prop} : ∀ {xs : List V} {vs : List Vl} {φ : Nat → Addr} {F : Addr → Prop} {S : Store} {n0 : Nat} {φ0 : Nat → Addr} {F0 : Addr → Prop} {H0 : Hp} {k : List D → Store → Res α},
    SG K φ F H S → RepVs K mg φ F H S.length xs vs → PostG K mg R W n0 φ0 F0 H0 Q ((frs vs S).bind k) → ∃ φ' F' S' ds, Now K S.length φ F H φ' F' H S' ∧ FzAll K F' H xs ds ∧ PostG K mg R W n0 φ0 F0 H0 Q (k ds S')
  | [], [], φ, F, S, _, _, _, _, k, g, _, p => ⟨φ, F, S, [], .refl g, .nil, p⟩
  | x :: xs, v :: vs, φ, F, S, n0, φ0, F0, H0, k, g, r, p => by
    have e0 : frs (v :: vs) S = (fr v S).bind fun x S1 => (frs vs S1).bind fun xs S2 => .ok (x :: xs) S2 := rfl
    rw [e0] at p
    have hne : fr v S ≠ .bad := fun e => by rw [e] at p; exact p
    obtain ⟨φ1, F1, S1, d, nw1, f1, e1⟩ := fr_ok g r.1 hne
    rw [e1] at p
    have r1 : RepVs K mg φ1 F1 H S1.length xs vs := r.2.ext nw1.ext nw1.le
    have p1 : PostG K mg R W n0 φ0 F0 H0 Q ((frs vs S1).bind fun ds S' => k (d :: ds) S') := by
      have : ((Res.ok d S1).bind fun x S1 => (frs vs S1).bind fun xs S2 => Res.ok (x :: xs) S2).bind k = (frs vs S1).bind fun ds S' => k (d :: ds) S' := by
        show ((frs vs S1).bind fun xs S2 => Res.ok (d :: xs) S2).bind k = _
        cases frs vs S1 <;> rfl
      rw [← this]
      exact p
    obtain ⟨φ2, F2, S2, ds, nw2, f2, p2⟩ := frs_ok (k := fun ds S' => k (d :: ds) S') nw1.sg r1 p1
    exact ⟨φ2, F2, S2, d :: ds, Now.trans g nw1 nw2, .cons (f1.ext nw2.ext.sub nw2.ext.same) f2, p2⟩
  | [], _ :: _, _, _, _, _, _, _, _, _, _, r, _ => r.elim
  | _ :: _, [], _, _, _, _, _, _, _, _, _, r, _ => r.elim
end
def eVar (i : Nat) : Ev := fun ρ S => match ρ[i]? with
  | some (some v) => .ok v S
  | _ => .bad
def eD (x : D) : Ev := fun _ S => .ok (.d x) S
def eGlo (x : Str) : Ev := fun _ S => .ok (.glo x) S
def eTy (T : Ty) : Ev := fun _ S => .ok (.ty T) S
def eBin (o : Vl → Vl → Store → Res Vl) (fa fb : Ev) : Ev := fun ρ S => (fa ρ S).bind fun a S1 => (fb ρ S1).bind fun b S2 => o a b S2
def eUn (o : Vl → Store → Res Vl) (fa : Ev) : Ev := fun ρ S => (fa ρ S).bind fun a S1 => o a S1
def aNil : Av := fun _ S => .ok [] S
def aCons (fe : Ev) (fr : Av) : Av := fun ρ S => (fe ρ S).bind fun v S1 => (fr ρ S1).bind fun vs S2 => .ok (v :: vs) S2
def eFrz (f : Ev) : Ev := fun ρ S => (f ρ S).bind fun v S1 => (fr v S1).bind fun d S2 => .ok (.d d) S2
def eTup (f : Av) : Ev := fun ρ S => (f ρ S).bind fun vs S1 => (frs vs S1).bind fun ds S2 => if ds.length ≤ 1000 then .ok (.d (.tuple ds)) S2 else .bad
def eLst (m : Bool) (f : Av) : Ev := fun ρ S => (f ρ S).bind fun vs S1 => (frs vs S1).bind fun ds S2 => if ds.length ≤ 1000 then mkL m ds S2 else .bad
def eCall (g : Fn) (f : Av) : Ev := fun ρ S => (f ρ S).bind fun vs S1 => g vs S1
def eCallN (n : Nat) (g : Fn) (f : Av) : Ev := fun ρ S => (f ρ S).bind fun vs S1 => if vs.length = n then g vs S1 else .bad
def spN (K : PySem.W.Frag) (mg : Str → Option Value) (n : Nat) (g : Fn) : Sp := fun vs H Q E => vs.length = n ∧ spF K mg g vs H Q E
def eIf (c : Tv) (fa fb : Ev) : Ev := fun ρ S => (c ρ S).bind fun b S1 => if b = true then fa ρ S1 else fb ρ S1
def eAnd (fa fb : Ev) : Ev := fun ρ S => (fa ρ S).bind fun v S1 => match v with
  | .d (.bool c) => if c = true then fb ρ S1 else .ok (.d (.bool false)) S1
  | _ => .bad
def eOr (fa fb : Ev) : Ev := fun ρ S => (fa ρ S).bind fun v S1 => match v with
  | .d (.bool c) => if c = true then .ok (.d (.bool true)) S1 else fb ρ S1
  | _ => .bad
def eNot (fa : Ev) : Ev := fun ρ S => (fa ρ S).bind fun v S1 => match v with
  | .d (.bool c) => .ok (.d (.bool !c)) S1
  | _ => .bad
def tOf (f : Ev) : Tv := fun ρ S => (f ρ S).bind fun v S1 => match v with
  | .d (.bool c) => .ok c S1
  | _ => .bad
def tAnd (a b : Tv) : Tv := fun ρ S => (a ρ S).bind fun c S1 => if c = true then b ρ S1 else .ok false S1
def tOr (a b : Tv) : Tv := fun ρ S => (a ρ S).bind fun c S1 => if c = true then .ok true S1 else b ρ S1
def tNot (a : Tv) : Tv := fun ρ S => (a ρ S).bind fun c S1 => .ok (!c) S1
def eChain (o o' : Vl → Vl → Store → Res Vl) (fa fb fc : Ev) : Ev := fun ρ S => (fa ρ S).bind fun a S1 => (fb ρ S1).bind fun b S2 => (o a b S2).bind fun z S3 => match z with
  | .d (.bool k) => if k = true then (fc ρ S3).bind fun c S4 => o' b c S4 else .ok (.d (.bool false)) S3
  | _ => .bad
section
variable {X : Cx} {W : WX} {k : Nat} {a b c e : Expr} {es rest : List Expr} {fa fb fc : Ev} {ga gb : Tv} {fs : Av} {pos : Pos}
theorem de_var (i : Nat) {x : Str} (hN : X.N[i]? = some x := by rfl) (hv : Vis X.env.scope x := by first | exact Or.inl rfl | exact Or.inr (Or.inl rfl) | exact Or.inr (Or.inr rfl)) (hd : (x == ("__debug__" : Str)) = false := by decide)
    (hcd : (x == ("__classdict__" : Str)) = false := by decide) : DE X W (.Name x pos) (eVar i) := ⟨PE.mono (pe_var hN hv hd hcd) fun σ H Q ⟨φ, F, ρ, S, g, sl, p⟩ => by
  unfold eVar at p
  cases q : ρ[i]? with
  | none => rw [q] at p; exact p.elim
  | some o =>
    cases o with
    | none => rw [q] at p; exact p.elim
    | some v =>
      rw [q] at p
      obtain ⟨x, h1, h2⟩ := sl.2 i v q
      exact ⟨x, h1, Post.ok g p h2⟩⟩
theorem de_c {v : V} {d : D} (h : PE X e (tC v)) (r : ∀ F H, Fz X.K F H v d) : DE X W e (eD d) := ⟨PE.mono h fun σ H Q ⟨φ, F, ρ, S, g, sl, p⟩ => Post.ok g p (r F H)⟩
theorem de_int {i : Int} {j : Nat} : DE X W (.Constant (.int i) j pos) (eD (.int i)) := de_c pe_int fun _ _ => .int i
theorem de_bl {i : Bool} {j : Nat} : DE X W (.Constant (.bool i) j pos) (eD (.bool i)) := de_c pe_bl fun _ _ => .bl i
theorem de_non {j : Nat} : DE X W (.Constant .none j pos) (eD .none) := de_c pe_non fun _ _ => .non
theorem de_str {i : Str} {j : Nat} : DE X W (.Constant (.str i) j pos) (eD (.str i)) := de_c pe_str fun _ _ => .str i
theorem de_con {x : Str} {v : V} {d : D} {u : Value} (hg : Gl X x) (hm : X.mg x = some u) (r : RelV v u) (f : ∀ F H, Fz X.K F H v d) (hd : (x == ("__debug__" : Str)) = false := by decide) : DE X W (.Name x pos) (eD d) := de_c (pe_glob hg hm r hd) f
theorem de_ty {x : Str} {T : Ty} (hg : Gl X x) (hm : X.mg x = none) (hv : bootBuiltins x = some (.type T.name)) (hn : x ≠ "__name__" := by decide) (hd : (x == ("__debug__" : Str)) = false := by decide) : DE X W (.Name x pos) (eTy T) :=
  ⟨PE.mono (pe_bltn (v := .ty T.name) hg hm hv rfl hn hd) fun σ H Q ⟨φ, F, ρ, S, g, sl, p⟩ => Post.ok g p rfl⟩
theorem de_glo {x : Str} {v : V} {u : Value} (hg : Gl X x) (hm : X.mg x = some u) (r : RelV v u) (hd : (x == ("__debug__" : Str)) = false := by decide) : DE X W (.Name x pos) (eGlo x) :=
  ⟨PE.mono (pe_glob hg hm r hd) fun σ H Q ⟨φ, F, ρ, S, g, sl, p⟩ => Post.ok g p ⟨u, hm, r⟩⟩
def OpOk (K : PySem.W.Frag) (mg : Str → Option Value) (r : R2) (o : Vl → Vl → Store → Res Vl) : Prop :=
  ∀ {φ : Nat → Addr} {F : Addr → Prop} {H : Hp} {S : Store} {x y : V} {v u : Vl} {Q : VK} {W : XW}, SG K φ F H S → RepV K mg φ F H S.length x v → RepV K mg φ F H S.length y u → Post K mg W S.length φ F H Q (o v u S) → r x y H Q
def UnOk (K : PySem.W.Frag) (mg : Str → Option Value) (r : V → Hp → VK → Prop) (o : Vl → Store → Res Vl) : Prop :=
  ∀ {φ : Nat → Addr} {F : Addr → Prop} {H : Hp} {S : Store} {x : V} {v : Vl} {Q : VK} {W : XW}, SG K φ F H S → RepV K mg φ F H S.length x v → Post K mg W S.length φ F H Q (o v S) → r x H Q
def CallOk (K : PySem.W.Frag) (mg : Str → Option Value) (r : List V → Hp → VK → Prop) (o : Fn) : Prop :=
  ∀ {φ : Nat → Addr} {F : Addr → Prop} {H : Hp} {S : Store} {x : List V} {v : List Vl} {Q : VK} {W : XW}, SG K φ F H S → RepVs K mg φ F H S.length x v → Post K mg W S.length φ F H Q (o v S) → r x H Q
theorem OpOk.or {K : PySem.W.Frag} {mg : Str → Option Value} {r r' : R2} {o : Vl → Vl → Store → Res Vl} (h : ∀ {φ : Nat → Addr} {F : Addr → Prop} {H : Hp} {S : Store} {x y : V} {v u : Vl} {Q : VK} {W : XW}, SG K φ F H S → RepV K mg φ F H S.length x v → RepV K mg φ F H S.length y u → Post K mg W S.length φ F H Q (o v u S) → r x y H Q ∨ r' x y H Q) :
    OpOk K mg (fun x y H Q => r x y H Q ∨ r' x y H Q) o := h
theorem re2 {o : Vl → Vl → Store → Res Vl} {r : R2} (ok : OpOk X.K X.mg r o) {σ : L2.St} {H : Hp} {Q : VK} (h : RE X.K X.mg W (eBin o fa fb) σ H Q) : RE X.K X.mg W fa σ H fun x H1 => RE X.K X.mg W fb σ H1 fun y H2 => r x y H2 Q := by
  obtain ⟨φ, F, ρ, S, g, sl, p⟩ := h
  refine ⟨φ, F, ρ, S, g, sl, PostG.bind g p fun φ1 F1 H1 S1 v x nw1 r1 p1 => ⟨φ1, F1, ρ, S1, nw1.sg, sl.now nw1, PostG.bind nw1.sg p1 fun φ2 F2 H2 S2 u y nw2 r2 p2 => ?_⟩⟩
  exact ok nw2.sg (r1.now nw2) r2 p2
theorem de_bin {op : Operator} {o : Vl → Vl → Store → Res Vl} {r : R2} (ho : OpR X (binaryOp op) r) (ok : OpOk X.K X.mg r o) (ha : DE X W a fa) (hb : DE X W b fb) : DE X W (.BinOp a op b pos) (eBin o fa fb) := ⟨PE.mono (pe_op ho ha.r hb.r) fun _ _ _ h => re2 ok h⟩
theorem de_cmp {op : CmpOp} {o : Vl → Vl → Store → Res Vl} {r : R2} (ho : OpR X (compareOp op) r) (ok : OpOk X.K X.mg r o) (ha : DE X W a fa) (hb : DE X W b fb) (hm : behindInMarks op b = false) : DE X W (.Compare a [op] [b] pos) (eBin o fa fb) := ⟨PE.mono (pe_cmpR ho ha.r hb.r hm) fun _ _ _ h => re2 ok h⟩
theorem tof {f : Ev} {t : TE} {σ : L2.St} {H : Hp} {Q : Bool → Hp → Prop} (h : RT X.K X.mg W (tOf f) σ H Q) (m : ∀ Q, RE X.K X.mg W f σ H Q → t σ H Q) : t σ H fun x H' => ∃ k, x = .bl k ∧ Q k H' := by
  obtain ⟨φ, F, ρ, S, g, sl, p⟩ := h
  refine m _ ⟨φ, F, ρ, S, g, sl, PostG.bind g p fun φ1 F1 H1 S1 v x nw1 r1 p1 => ?_⟩
  cases v with
  | d y =>
    cases y with
    | bool b => cases r1; exact ⟨b, rfl, PostT.ok nw1.sg p1⟩
    | _ => exact p1.elim
  | _ => exact p1.elim
theorem dt_cmp {op : CmpOp} {o : Vl → Vl → Store → Res Vl} {r : R2} (ho : OpR X (compareOp op) r) (ok : OpOk X.K X.mg r o) (ha : DE X W a fa) (hb : DE X W b fb) (hm : behindInMarks op b = false) : DT X W (.Compare a [op] [b] pos) (tOf (eBin o fa fb)) := ⟨PT.mono (pt_cmpR ho ha.r hb.r hm) fun _ _ _ h => tof h fun _ h => re2 ok h⟩
theorem dt_val {f : Ev} (h : DE X W e f) (he : ∀ whole, isTrue e X.env whole = (do let v ← whole; standAt e.pos; holding [v] (truthy v)) := by intro _; rfl) : DT X W e (tOf f) := ⟨PT.mono (pt_val h.r he) fun _ _ _ q => tof q fun _ h => h⟩
theorem rechain {o o' : Vl → Vl → Store → Res Vl} {r r' : R2} (ok : OpOk X.K X.mg r o) (ok' : OpOk X.K X.mg r' o') {σ : L2.St} {H : Hp} {Q : VK} (h : RE X.K X.mg W (eChain o o' fa fb fc) σ H Q) : tChain r r' (RE X.K X.mg W fa) (RE X.K X.mg W fb) (RE X.K X.mg W fc) σ H Q := by
  obtain ⟨φ, F, ρ, S, g, sl, p⟩ := h
  refine ⟨φ, F, ρ, S, g, sl, PostG.bind g p fun φ1 F1 H1 S1 v x nw1 r1 p1 => ⟨φ1, F1, ρ, S1, nw1.sg, sl.now nw1, PostG.bind nw1.sg p1 fun φ2 F2 H2 S2 u y nw2 r2 p2 => ?_⟩⟩
  refine ok nw2.sg (r1.now nw2) r2 (PostG.bind (R' := RepV X.K X.mg) nw2.sg p2 fun φ3 F3 H3 S3 z zv nw3 r3 p3 => ?_)
  cases z with
  | d zd =>
    cases zd with
    | bool kb =>
      cases r3
      refine ⟨kb, rfl, ?_⟩
      cases kb with
      | true =>
        simp only [if_true] at p3 ⊢
        exact ⟨φ3, F3, ρ, S3, nw3.sg, ((sl.now nw1).now nw2).now nw3, PostG.bind nw3.sg p3 fun φ4 F4 H4 S4 w q nw4 r4 p4 => ok' nw4.sg ((r2.now nw3).now nw4) r4 p4⟩
      | false => exact Post.ok nw3.sg p3 (.bl false)
    | _ => exact p3.elim
  | _ => exact p3.elim
theorem de_chain {op op' : CmpOp} {o o' : Vl → Vl → Store → Res Vl} {r r' : R2} (ho : OpR X (compareOp op) r) (ok : OpOk X.K X.mg r o) (ho' : OpR X (compareOp op') r') (ok' : OpOk X.K X.mg r' o') (ha : DE X W a fa) (hb : DE X W b fb) (hc : DE X W c fc)
    (hm : lastMarks [op, op'] [b, c] = false := by rfl) : DE X W (.Compare a [op, op'] [b, c] pos) (eChain o o' fa fb fc) := ⟨PE.mono (pe_chain ho ho' ha.r hb.r hc.r hm) fun _ _ _ h => rechain ok ok' h⟩
theorem dt_chain {op op' : CmpOp} {o o' : Vl → Vl → Store → Res Vl} {r r' : R2} (ho : OpR X (compareOp op) r) (ok : OpOk X.K X.mg r o) (ho' : OpR X (compareOp op') r') (ok' : OpOk X.K X.mg r' o') (ha : DE X W a fa) (hb : DE X W b fb) (hc : DE X W c fc)
    (hm : lastMarks [op, op'] [b, c] = false := by rfl) : DT X W (.Compare a [op, op'] [b, c] pos) (tOf (eChain o o' fa fb fc)) := ⟨PT.mono (pt_chain ho ho' ha.r hb.r hc.r hm) fun _ _ _ h => tof h fun _ h => rechain ok ok' h⟩
theorem de_un {op : UnaryOp} {o : Vl → Store → Res Vl} {r : V → Hp → VK → Prop} (ho : UnR X (unaryOp op) r) (ok : UnOk X.K X.mg r o) (ha : DE X W a fa) : DE X W (.UnaryOp op a pos) (eUn o fa) := ⟨PE.mono (pe_un ho ha.r) fun σ H Q ⟨φ, F, ρ, S, g, sl, p⟩ =>
  ⟨φ, F, ρ, S, g, sl, PostG.bind g p fun φ1 F1 H1 S1 v x nw1 r1 p1 => ok nw1.sg r1 p1⟩⟩
theorem da_nil : DA X W [] aNil := ⟨PA.mono pa_nil fun σ H Q ⟨φ, F, ρ, S, g, sl, p⟩ => p _ _ _ (.refl g) [] trivial⟩
theorem da_cons {fe : Ev} {fr : Av} (ha : DE X W e fe) (hr : DA X W es fr) (hs : starEach (e :: es) X.env = (false, eval e X.env) :: starEach es X.env := by rfl) : DA X W (e :: es) (aCons fe fr) := ⟨PA.mono (pa_cons ha.r hr.r hs) fun σ H Q ⟨φ, F, ρ, S, g, sl, p⟩ =>
  ⟨φ, F, ρ, S, g, sl, PostG.bind g p fun φ1 F1 H1 S1 v x nw1 r1 p1 => ⟨φ1, F1, ρ, S1, nw1.sg, sl.now nw1, PostG.bind nw1.sg p1 fun φ2 F2 H2 S2 vs xs nw2 r2 p2 => p2 _ _ _ (.refl nw2.sg) _ ⟨r1.now nw2, r2⟩⟩⟩⟩
theorem de_frz {f : Ev} (h : DE X W e f) : DE X W e (eFrz f) := ⟨PE.mono h.r fun σ H Q ⟨φ, F, ρ, S, g, sl, p⟩ => ⟨φ, F, ρ, S, g, sl, PostG.bind g p fun φ1 F1 H1 S1 v x nw1 r1 p1 => by
  have hne : fr v S1 ≠ .bad := fun e => by rw [e] at p1; exact p1
  obtain ⟨φ2, F2, S2, d, nw2, f2, e2⟩ := fr_ok nw1.sg r1 hne
  rw [e2] at p1
  exact p1 _ _ _ nw2 _ f2⟩⟩
theorem line1000 {n : Nat} (h : n ≤ 1000) : n ≤ sizeLine := Nat.le_trans h (by decide)
theorem de_tup {x1} (h : DA X W es fs) : DE X W (.Tuple es x1 pos) (eTup fs) := ⟨PE.mono (pe_tup h.r) fun σ H Q ⟨φ, F, ρ, S, g, sl, p⟩ => ⟨φ, F, ρ, S, g, sl, PostG.bind g p fun φ1 F1 H1 S1 vs xs nw1 r1 p1 => by
  obtain ⟨φ2, F2, S2, ds, nw2, f2, p2⟩ := frs_ok (k := fun ds S2 => if ds.length ≤ 1000 then Res.ok (Vl.d (.tuple ds)) S2 else .bad) nw1.sg r1 p1
  by_cases hl : ds.length ≤ 1000
  · simp only [hl, if_true] at p2
    exact ⟨by rw [f2.len]; exact line1000 hl, Post.newT nw2.sg f2 (PostG.start nw1.sg nw2 p2)⟩
  · simp only [hl, if_false] at p2
    exact p2.elim⟩⟩
theorem de_lst (m : Bool) (h : DA X W es fs) : DE X W (.List es pos) (eLst m fs) := ⟨PE.mono (pe_lst h.r) fun σ H Q ⟨φ, F, ρ, S, g, sl, p⟩ => ⟨φ, F, ρ, S, g, sl, PostG.bind g p fun φ1 F1 H1 S1 vs xs nw1 r1 p1 => by
  obtain ⟨φ2, F2, S2, ds, nw2, f2, p2⟩ := frs_ok (k := fun ds S2 => if ds.length ≤ 1000 then mkL m ds S2 else .bad) nw1.sg r1 p1
  by_cases hl : ds.length ≤ 1000
  · simp only [hl, if_true] at p2
    exact ⟨by rw [f2.len]; exact line1000 hl, Post.newL nw2.sg f2 (PostG.start nw1.sg nw2 p2)⟩
  · simp only [hl, if_false] at p2
    exact p2.elim⟩⟩
theorem dw_one (h : DT X W a ga) : DW X W (.BoolOp .And [a] pos) ga := ⟨pw_and1 h.r⟩
theorem dw_or1 (h : DT X W a ga) : DW X W (.BoolOp .Or [a] pos) ga := ⟨pw_or1 h.r⟩
theorem dw_and (ha : DT X W a ga) (hb : DW X W (.BoolOp .And (b :: rest) pos) gb) : DW X W (.BoolOp .And (a :: b :: rest) pos) (tAnd ga gb) := ⟨PW.mono (pw_and ha.r hb.r) fun σ H Q ⟨φ, F, ρ, S, g, sl, p⟩ => ⟨φ, F, ρ, S, g, sl, PostG.bind (R' := RepB) g p fun φ1 F1 H1 S1 v x nw1 r1 p1 => by
  have r1 : x = v := r1
  subst r1
  cases x with
  | true => exact ⟨φ1, F1, ρ, S1, nw1.sg, sl.now nw1, p1⟩
  | false => exact PostT.ok nw1.sg p1⟩⟩
theorem dw_or (ha : DT X W a ga) (hb : DW X W (.BoolOp .Or (b :: rest) pos) gb) : DW X W (.BoolOp .Or (a :: b :: rest) pos) (tOr ga gb) := ⟨PW.mono (pw_or ha.r hb.r) fun σ H Q ⟨φ, F, ρ, S, g, sl, p⟩ => ⟨φ, F, ρ, S, g, sl, PostG.bind (R' := RepB) g p fun φ1 F1 H1 S1 v x nw1 r1 p1 => by
  have r1 : x = v := r1
  subst r1
  cases x with
  | false => exact ⟨φ1, F1, ρ, S1, nw1.sg, sl.now nw1, p1⟩
  | true => exact PostT.ok nw1.sg p1⟩⟩
theorem DW.t (h : DW X W e ga) : DT X W e ga := ⟨h.r.pt⟩
theorem dt_not (ha : DT X W a ga) : DT X W (.UnaryOp .Not a pos) (tNot ga) := ⟨PT.mono (pt_not ha.r) fun σ H Q ⟨φ, F, ρ, S, g, sl, p⟩ => ⟨φ, F, ρ, S, g, sl, PostG.bind (R' := RepB) g p fun φ1 F1 H1 S1 v x nw1 r1 p1 => by
  have r1 : x = v := r1
  subst r1
  exact PostT.ok nw1.sg p1⟩⟩
theorem de_one {op} (h : DE X W a fa) : DE X W (.BoolOp op [a] pos) fa := ⟨pe_one h.r⟩
theorem de_and (ha : DE X W a fa) (hb : DE X W (.BoolOp .And (b :: rest) pos) fb) : DE X W (.BoolOp .And (a :: b :: rest) pos) (eAnd fa fb) := ⟨PE.mono (pe_and ha.r hb.r) fun σ H Q ⟨φ, F, ρ, S, g, sl, p⟩ => ⟨φ, F, ρ, S, g, sl, PostG.bind g p fun φ1 F1 H1 S1 v x nw1 r1 p1 => by
  cases v with
  | d y =>
    cases y with
    | bool c =>
      cases r1
      refine ⟨c, rfl, ?_⟩
      cases c with
      | true => exact ⟨φ1, F1, ρ, S1, nw1.sg, sl.now nw1, p1⟩
      | false => exact Post.ok nw1.sg p1 (.bl false)
    | _ => exact p1.elim
  | _ => exact p1.elim⟩⟩
theorem de_or (ha : DE X W a fa) (hb : DE X W (.BoolOp .Or (b :: rest) pos) fb) : DE X W (.BoolOp .Or (a :: b :: rest) pos) (eOr fa fb) := ⟨PE.mono (pe_or ha.r hb.r) fun σ H Q ⟨φ, F, ρ, S, g, sl, p⟩ => ⟨φ, F, ρ, S, g, sl, PostG.bind g p fun φ1 F1 H1 S1 v x nw1 r1 p1 => by
  cases v with
  | d y =>
    cases y with
    | bool c =>
      cases r1
      refine ⟨c, rfl, ?_⟩
      cases c with
      | false => exact ⟨φ1, F1, ρ, S1, nw1.sg, sl.now nw1, p1⟩
      | true => exact Post.ok nw1.sg p1 (.bl true)
    | _ => exact p1.elim
  | _ => exact p1.elim⟩⟩
theorem de_not (ha : DE X W a fa) : DE X W (.UnaryOp .Not a pos) (eNot fa) := ⟨PE.mono (pe_not ha.r) fun σ H Q ⟨φ, F, ρ, S, g, sl, p⟩ => ⟨φ, F, ρ, S, g, sl, PostG.bind g p fun φ1 F1 H1 S1 v x nw1 r1 p1 => by
  cases v with
  | d y =>
    cases y with
    | bool c => cases r1; exact ⟨c, rfl, Post.ok nw1.sg p1 (.bl _)⟩
    | _ => exact p1.elim
  | _ => exact p1.elim⟩⟩
theorem de_if {c : Expr} (hc : DT X W c ga) (ha : DE X W a fa) (hb : DE X W b fb) : DE X W (.IfExp c a b pos) (eIf ga fa fb) := ⟨PE.mono (pe_ifExp hc.r ha.r hb.r) fun σ H Q ⟨φ, F, ρ, S, g, sl, p⟩ => ⟨φ, F, ρ, S, g, sl, PostG.bind (R' := RepB) g p fun φ1 F1 H1 S1 v x nw1 r1 p1 => by
  have r1 : x = v := r1
  subst r1
  cases x with
  | true => exact ⟨φ1, F1, ρ, S1, nw1.sg, sl.now nw1, p1⟩
  | false => exact ⟨φ1, F1, ρ, S1, nw1.sg, sl.now nw1, p1⟩⟩⟩
theorem de_call {f : Addr} {fd : FuncData} {ps : List Str} {n : Nat} {g : Fn} {x : Str} {p : Pos} {j : Nat} (cc : Cc X W j) (G : Fk X.prog X.w X.K X.mg X.base k f fd ps (spN X.K X.mg n g)) (hj : k ≤ j) (hg : Gl X x) (hm : X.mg x = some (.ref f)) (hk : PySem.W.keepIn X.K (.ref f) = true)
    (hb : Binds X.K fd ps []) (ha : DA X W (e :: es) fs) (hdb : (x == ("__debug__" : Str)) = false := by decide) (he : starEach (e :: es) X.env = (false, eval e X.env) :: starEach es X.env := by rfl)
    (hpl : (backTo pos (starEach es X.env)).any (·.1) = false := by rfl) : DE X W (.Call (.Name x p) (e :: es) [] pos) (eCallN n g fs) :=
  ⟨PE.mono (pe_callk G (cc.rm.mono hj) cc.gd cc.tk hg hm hk hb ha.r hdb he hpl) fun σ H Q ⟨φ, F, ρ, S, g, sl, p⟩ => ⟨φ, F, ρ, S, g, sl, PostG.bind g p fun φ1 F1 H1 S1 vs xs nw1 r1 p1 => by
    by_cases hl : vs.length = n
    · rw [if_pos hl] at p1
      exact ⟨r1.len.trans hl, φ1, F1, vs, S1, nw1.sg, r1, p1⟩
    · rw [if_neg hl] at p1; exact p1.elim⟩⟩
def eCall0 (n : Nat) (g : Fn) : Ev := fun _ S => if n = 0 then g [] S else .bad
theorem de_call0 {f : Addr} {fd : FuncData} {ps : List Str} {n : Nat} {g : Fn} {x : Str} {p : Pos} {j : Nat} (cc : Cc X W j) (G : Fk X.prog X.w X.K X.mg X.base k f fd ps (spN X.K X.mg n g)) (hj : k ≤ j) (hg : Gl X x) (hm : X.mg x = some (.ref f)) (hk : PySem.W.keepIn X.K (.ref f) = true)
    (hb : Binds X.K fd ps []) (hdb : (x == ("__debug__" : Str)) = false := by decide) : DE X W (.Call (.Name x p) [] [] pos) (eCall0 n g) :=
  ⟨PE.mono (pe_callk0 G (cc.rm.mono hj) cc.gd cc.tk hg hm hk hb hdb) fun σ H Q ⟨φ, F, ρ, S, gg, sl, p⟩ => by
    unfold eCall0 at p
    by_cases hl : n = 0
    · rw [if_pos hl] at p
      exact ⟨hl.symm, φ, F, [], S, gg, trivial, p⟩
    · rw [if_neg hl] at p; exact p.elim⟩
theorem de_callB {id : String} {x : Str} {p : Pos} {r : List V → Hp → VK → Prop} {o : Fn} (hc : CallR X (.builtin id) r) (ok : CallOk X.K X.mg r o) (hg : Gl X x) (hm : X.mg x = none) (hv : bootBuiltins x = some (.builtin id)) (ha : DA X W (e :: es) fs) (hn : x ≠ "__name__" := by decide) (hdb : (x == ("__debug__" : Str)) = false := by decide)
    (he : starEach (e :: es) X.env = (false, eval e X.env) :: starEach es X.env := by rfl) (hpl : (backTo pos (starEach es X.env)).any (·.1) = false := by rfl) : DE X W (.Call (.Name x p) (e :: es) [] pos) (eCall o fs) :=
  ⟨PE.mono (pe_callB hc hg hm hv ha.r hn hdb he hpl) fun σ H Q ⟨φ, F, ρ, S, g, sl, p⟩ => ⟨φ, F, ρ, S, g, sl, PostG.bind g p fun φ1 F1 H1 S1 vs xs nw1 r1 p1 => ok nw1.sg r1 p1⟩⟩
theorem de_callTy {T : String} {x : Str} {p : Pos} {r : List V → Hp → VK → Prop} {o : Fn} (hc : CallR X (.type T) r) (ok : CallOk X.K X.mg r o) (hg : Gl X x) (hm : X.mg x = none) (hv : bootBuiltins x = some (.type T)) (ha : DA X W (e :: es) fs) (hn : x ≠ "__name__" := by decide) (hdb : (x == ("__debug__" : Str)) = false := by decide)
    (he : starEach (e :: es) X.env = (false, eval e X.env) :: starEach es X.env := by rfl) (hpl : (backTo pos (starEach es X.env)).any (·.1) = false := by rfl) : DE X W (.Call (.Name x p) (e :: es) [] pos) (eCall o fs) :=
  ⟨PE.mono (pe_callTy hc hg hm hv ha.r hn hdb he hpl) fun σ H Q ⟨φ, F, ρ, S, g, sl, p⟩ => ⟨φ, F, ρ, S, g, sl, PostG.bind g p fun φ1 F1 H1 S1 vs xs nw1 r1 p1 => ok nw1.sg r1 p1⟩⟩
end
section
variable {K : PySem.W.Frag} {F : Addr → Prop} {H : Hp}
mutual
theorem Fz.dp : ∀ (d : D) (v : V), Fz K F H v d → d.plain = true → Dp K H v d
  | .none, _, h, _ => by cases h; exact .non
  | .bool b, _, h, _ => by cases h; exact .bl b
  | .int i, _, h, _ => by cases h; exact .int i
  | .str x, _, h, _ => by cases h; exact .str x
  | .list ds, _, h, p => by
    cases h with
    | lst h1 h2 h3 => exact .lst (.inl (.inl h2)) (FzAll.dp ds _ h3 (by simpa [PyData.plain] using p))
  | .tuple ds, _, h, p => by
    cases h with
    | tup h1 h2 => exact .tup h1.sq (FzAll.dp ds _ h2 (by simpa [PyData.plain] using p))
  | .dict ds, _, h, p => by simp [PyData.plain] at p
theorem FzAll.dp : ∀ (ds : List D) (vs : List V), FzAll K F H vs ds → PyData.plainAll ds = true → DpAll K H vs ds
  | [], _, h, _ => by cases h; exact .nil
  | d :: ds, _, h, p => by
    have p' : d.plain = true ∧ PyData.plainAll ds = true := by simpa [PyData.plainAll] using p
    cases h with
    | cons h1 h2 => exact .cons (Fz.dp d _ h1 p'.1) (FzAll.dp ds _ h2 p'.2)
end
theorem Ob.dp {d : D} {x : V} (h : Ob K F H x d) (p : d.plain = true) : Dp K H x d := by
  cases d with
  | none => cases h; exact .non
  | bool b => cases h; exact .bl b
  | int i => cases h; exact .int i
  | str z => cases h; exact .str z
  | list ds => obtain ⟨a, xs, rfl, h1, h2⟩ := h; exact .lst (.inl (.inl h1)) (h2.dp ds xs (by simpa [PyData.plain] using p))
  | tuple ds => obtain ⟨a, xs, rfl, h1, h2⟩ := h; exact .tup h1.sq (h2.dp ds xs (by simpa [PyData.plain] using p))
  | dict ds => simp [PyData.plain] at p
end
def shal (d : D) : Bool := d.plain && decide (d.depth ≤ 60)
def oPost (d : Option D) (S : Store) : Res Vl := match d with
  | some d => .ok (.d d) S
  | none => .bad
def mulOk (i j : Int) : Bool := decide (i.natAbs < 2 ^ 64) || decide (j.natAbs < 2 ^ 64) || (decide (i.natAbs < 2 ^ 4000) && decide (j.natAbs < 2 ^ 4000))
theorem log2_lt {n k : Nat} (h : n < 2 ^ k) : n.log2 ≤ k := by
  by_cases e : n = 0
  · subst e; simp
  · exact Nat.le_of_lt ((Nat.log2_lt e).mpr h)
theorem mulOk_ok {i j : Int} (h : mulOk i j = true) : IntMulOk i j := by
  simp only [mulOk, Bool.or_eq_true, Bool.and_eq_true, decide_eq_true_eq] at h
  rcases h with (h | h) | ⟨h1, h2⟩
  · exact CMul.ok (.inl ⟨by omega, by omega⟩)
  · exact CMul.ok (.inr ⟨by omega, by omega⟩)
  · exact CMulW.ok (by have := log2_lt h1; have := log2_lt h2; unfold CMulW; omega)
theorem natAbs_pow {j : Int} {k : Nat} (h0 : 0 < j) (h : j < 2 ^ k) : j.natAbs < 2 ^ k := by
  have e : (j.natAbs : Int) = j := Int.natAbs_of_nonneg (Int.le_of_lt h0)
  have h3 : (j.natAbs : Int) < ((2 ^ k : Nat) : Int) := by
    rw [e, Int.natCast_pow]
    exact h
  exact Int.ofNat_lt.mp h3
def oAdd (m : Bool) (a b : Vl) (S : Store) : Res Vl := match view S a, view S b with
  | some (.int i), some (.int j) => .ok (.d (.int (i + j))) S
  | some (.str x), some (.str y) => if x.length + y.length ≤ sizeLine then .ok (.d (.str (x ++ y))) S else .bad
  | some (.tuple xs), some (.tuple ys) => if xs.length + ys.length ≤ sizeLine then .ok (.d (.tuple (xs ++ ys))) S else .bad
  | some (.list xs), some (.list ys) => if xs.length + ys.length ≤ sizeLine then mkL m (xs ++ ys) S else .bad
  | _, _ => .bad
def oSub (a b : Vl) (S : Store) : Res Vl := match view S a, view S b with
  | some (.int i), some (.int j) => .ok (.d (.int (i - j))) S
  | _, _ => .bad
def oMul (m : Bool) (a b : Vl) (S : Store) : Res Vl := match view S a, view S b with
  | some (.int i), some (.int j) => if mulOk i j = true then .ok (.d (.int (i * j))) S else .bad
  | some (.list xs), some (.int k) => if -(2 ^ 63) ≤ k ∧ k < 2 ^ 63 ∧ xs.length * k.toNat ≤ sizeLine then mkL m (List.replicate k.toNat xs).flatten S else .bad
  | some (.tuple xs), some (.int k) => if xs ≠ [] ∧ 2 ≤ k ∧ k ≤ 1000 ∧ xs.length ≤ 1000 then .ok (.d (.tuple (List.replicate k.toNat xs).flatten)) S else .bad
  | _, _ => .bad
def oDiv (a b : Vl) (S : Store) : Res Vl := match view S a, view S b with
  | some (.int i), some (.int j) => if 0 < j ∧ j < 2 ^ 4000 then .ok (.d (.int (i / j))) S else if j ≠ 0 ∧ j.natAbs < 1073741824 then .ok (.d (.int (i.fdiv j))) S else .bad
  | _, _ => .bad
def oMod (a b : Vl) (S : Store) : Res Vl := match view S a, view S b with
  | some (.int i), some (.int j) => if 0 < j then .ok (.d (.int (i % j))) S else if j ≠ 0 then .ok (.d (.int (i.fmod j))) S else .bad
  | _, _ => .bad
def oPow (a b : Vl) (S : Store) : Res Vl := match view S a, view S b with
  | some (.int i), some (.int j) => if 0 ≤ j ∧ j ≤ 1000000 ∧ i.natAbs < 2 ^ 64 then .ok (.d (.int (i ^ j.toNat))) S else .bad
  | _, _ => .bad
def oNeg (a : Vl) (S : Store) : Res Vl := match view S a with
  | some (.int i) => .ok (.d (.int (-i))) S
  | _ => .bad
def oEq (a b : Vl) (S : Store) : Res Vl := match view S a, view S b with
  | some x, some y => if (shal x && shal y) = true then .ok (.d (.bool (PyData.eqv x y))) S else .bad
  | _, _ => .bad
def oNe (a b : Vl) (S : Store) : Res Vl := match view S a, view S b with
  | some x, some y => if (shal x && shal y) = true then .ok (.d (.bool !(PyData.eqv x y))) S else .bad
  | _, _ => .bad
def isNone : D → Bool
  | .none => true
  | _ => false
def ordOk (x y : D) : Bool := shal x && shal y && PySem.W.alike x y && !isNone x
def oLt (a b : Vl) (S : Store) : Res Vl := match view S a, view S b with
  | some (.int i), some (.int j) => .ok (.d (.bool (decide (i < j)))) S
  | some x, some y => if ordOk x y = true then .ok (.d (.bool (PySem.W.dataLt x y))) S else .bad
  | _, _ => .bad
def oGt (a b : Vl) (S : Store) : Res Vl := match view S a, view S b with
  | some (.int i), some (.int j) => .ok (.d (.bool (decide (j < i)))) S
  | some x, some y => if ordOk x y = true then .ok (.d (.bool (PySem.W.dataLt y x))) S else .bad
  | _, _ => .bad
def oLe (a b : Vl) (S : Store) : Res Vl := match view S a, view S b with
  | some (.int i), some (.int j) => .ok (.d (.bool (decide (i ≤ j)))) S
  | some x, some y => if ordOk x y = true then .ok (.d (.bool !(PySem.W.dataLt y x))) S else .bad
  | _, _ => .bad
def oGe (a b : Vl) (S : Store) : Res Vl := match view S a, view S b with
  | some (.int i), some (.int j) => .ok (.d (.bool (decide (j ≤ i)))) S
  | some x, some y => if ordOk x y = true then .ok (.d (.bool !(PySem.W.dataLt x y))) S else .bad
  | _, _ => .bad
def isIn (x : D) (ys : List D) : Bool := ys.any fun y => PyData.eqv y x
def oIn (neg : Bool) (a b : Vl) (S : Store) : Res Vl := match view S a, view S b with
  | some x, some (.list ys) => if (shal x && shal (.list ys)) = true then .ok (.d (.bool (if neg = true then !isIn x ys else isIn x ys))) S else .bad
  | some x, some (.tuple ys) => if (shal x && shal (.tuple ys)) = true then .ok (.d (.bool (if neg = true then !isIn x ys else isIn x ys))) S else .bad
  | _, _ => .bad
def oIs (neg : Bool) (a b : Vl) (S : Store) : Res Vl := match view S b with
  | some .none => match view S a with
    | some x => .ok (.d (.bool (if neg = true then !isNone x else isNone x))) S
    | _ => .bad
  | some (.bool q) => match view S a with
    | some (.bool p) => .ok (.d (.bool (if neg = true then !decide (p = q) else decide (p = q)))) S
    | _ => .bad
  | _ => .bad
def oIx (a b : Vl) (S : Store) : Res Vl := match view S a, view S b with
  | some (.list xs), some (.int i) => oPost (atI xs i) S
  | some (.tuple xs), some (.int i) => oPost (atI xs i) S
  | some (.str z), some (.int i) => if z.length ≤ sizeLine then oPost ((atI z.cps.toList i).map fun c => .str ⟨#[c]⟩) S else .bad
  | _, _ => .bad
section
variable {K : PySem.W.Frag} {mg : Str → Option Value} {φ : Nat → Addr} {F : Addr → Prop} {H : Hp} {S : Store} {x y : V} {v u : Vl} {Q : VK} {W : XW} {n : Nat} {m : Bool}
theorem FzAll.flat {xs : List V} {ds : List D} (h : FzAll K F H xs ds) : ∀ n, FzAll K F H (List.replicate n xs).flatten (List.replicate n ds).flatten
  | 0 => .nil
  | n + 1 => by
    rw [List.replicate_succ, List.replicate_succ, List.flatten_cons, List.flatten_cons]
    exact h.append (FzAll.flat h n)
theorem post_bad {v u : Vl} (p : Post K mg W n φ F H Q .bad) : False := p
def rMulX : R2 := rI (fun i j => mulOk i j = true) fun i j => .int (i * j)
def rDivX : R2 := rI (fun i j => 0 < j ∧ j < 2 ^ 4000) fun i j => .int (i / j)
theorem ok_add : OpOk K mg (fun x y H Q => rI0 (fun i j => V.int (i + j)) x y H Q ∨ (∃ i j, x = .str i ∧ y = .str j ∧ i.length + j.length ≤ sizeLine ∧ Q (.str (i ++ j)) H) ∨ rCatA K x y H Q ∨ rCat x y H Q) (oAdd m) := by
  intro φ F H S x y v u Q W g r1 r2 p
  cases e1 : view S v with
  | none => simp only [oAdd, e1] at p; exact p.elim
  | some d1 =>
    cases e2 : view S u with
    | none => simp only [oAdd, e1, e2] at p; exact p.elim
    | some d2 =>
      have o1 := ob_of g r1 e1
      have o2 := ob_of g r2 e2
      simp only [oAdd, e1, e2] at p
      cases d1 <;> cases d2 <;> dsimp only at p <;> first | exact p.elim | skip
      · exact .inl ⟨_, _, o1, o2, Post.ok g p (.int _)⟩
      · rename_i i j
        by_cases hl : i.length + j.length ≤ sizeLine
        · simp only [hl, if_true] at p
          exact .inr (.inl ⟨_, _, o1, o2, hl, Post.ok g p (.str _)⟩)
        · simp only [hl, if_false] at p; exact p.elim
      · rename_i ds es
        by_cases hl : ds.length + es.length ≤ sizeLine
        · simp only [hl, if_true] at p
          obtain ⟨a, xs, h1, h2, h3⟩ := o1
          obtain ⟨b, ys, h4, h5, h6⟩ := o2
          exact .inr (.inr (.inr ⟨a, b, xs, ys, h1, h4, h2, h5, by rw [h3.len, h6.len]; exact hl, Post.newL g (h3.append h6) p⟩))
        · simp only [hl, if_false] at p; exact p.elim
      · rename_i ds es
        by_cases hl : ds.length + es.length ≤ sizeLine
        · simp only [hl, if_true] at p
          obtain ⟨a, xs, h1, h2, h3⟩ := o1
          obtain ⟨b, ys, h4, h5, h6⟩ := o2
          refine .inr (.inr (.inl ⟨a, b, xs, ys, h1, h4, h2.sq, h5.sq, by rw [h3.len, h6.len]; exact hl, fun e => ?_, fun e e' => ?_, fun e e' => Post.newT g (h3.append h6) p⟩))
          · subst e
            cases h3
            exact Post.ok g p (.tup h5 h6)
          · subst e'
            cases h6
            rw [List.append_nil] at p
            exact Post.ok g p (.tup h2 h3)
        · simp only [hl, if_false] at p; exact p.elim
theorem ok_sub : OpOk K mg (rI0 fun i j => V.int (i - j)) oSub := by
  intro φ F H S x y v u Q W g r1 r2 p
  cases e1 : view S v with
  | none => simp only [oSub, e1] at p; exact p.elim
  | some d1 =>
    cases e2 : view S u with
    | none => simp only [oSub, e1, e2] at p; cases d1 <;> exact p.elim
    | some d2 =>
      have o1 := ob_of g r1 e1
      have o2 := ob_of g r2 e2
      simp only [oSub, e1, e2] at p
      cases d1 <;> cases d2 <;> dsimp only at p <;> first | exact p.elim | skip
      exact ⟨_, _, o1, o2, Post.ok g p (.int _)⟩
theorem ok_mul : OpOk K mg (fun x y H Q => rMulX x y H Q ∨ rRep x y H Q ∨ rRepT K x y H Q) (oMul m) := by
  intro φ F H S x y v u Q W g r1 r2 p
  cases e1 : view S v with
  | none => simp only [oMul, e1] at p; exact p.elim
  | some d1 =>
    cases e2 : view S u with
    | none => simp only [oMul, e1, e2] at p; cases d1 <;> exact p.elim
    | some d2 =>
      have o1 := ob_of g r1 e1
      have o2 := ob_of g r2 e2
      simp only [oMul, e1, e2] at p
      cases d1 <;> cases d2 <;> dsimp only at p <;> first | exact p.elim | skip
      · rename_i i j
        by_cases hl : mulOk i j = true
        · simp only [hl, if_true] at p
          exact .inl ⟨_, _, o1, o2, hl, Post.ok g p (.int _)⟩
        · simp only [hl] at p; exact p.elim
      · rename_i ds k
        by_cases hl : -(2 ^ 63) ≤ k ∧ k < 2 ^ 63 ∧ ds.length * k.toNat ≤ sizeLine
        · rw [if_pos hl] at p
          obtain ⟨a, xs, h1, h2, h3⟩ := o1
          exact .inr (.inl ⟨a, k, xs, h1, o2, h2, hl.1, hl.2.1, by rw [h3.len]; exact hl.2.2, Post.newL g (h3.flat _) p⟩)
        · rw [if_neg hl] at p; exact p.elim
      · rename_i ds k
        by_cases hl : ds ≠ [] ∧ 2 ≤ k ∧ k ≤ 1000 ∧ ds.length ≤ 1000
        · rw [if_pos hl] at p
          obtain ⟨a, xs, h1, h2, h3⟩ := o1
          exact .inr (.inr ⟨a, k, xs, h1, o2, h2.sq, fun e => hl.1 (by subst e; cases h3; rfl), hl.2.1, hl.2.2.1, by rw [h3.len]; exact hl.2.2.2, Post.newT g (h3.flat _) p⟩)
        · rw [if_neg hl] at p; exact p.elim
theorem ok_div : OpOk K mg (fun x y H Q => rDivX x y H Q ∨ rI CDivN (fun i j => V.int (i.fdiv j)) x y H Q) oDiv := by
  intro φ F H S x y v u Q W g r1 r2 p
  cases e1 : view S v with
  | none => simp only [oDiv, e1] at p; exact p.elim
  | some d1 =>
    cases e2 : view S u with
    | none => simp only [oDiv, e1, e2] at p; cases d1 <;> exact p.elim
    | some d2 =>
      have o1 := ob_of g r1 e1
      have o2 := ob_of g r2 e2
      simp only [oDiv, e1, e2] at p
      cases d1 <;> cases d2 <;> dsimp only at p <;> first | exact p.elim | skip
      rename_i i j
      by_cases hl : 0 < j ∧ j < 2 ^ 4000
      · rw [if_pos hl] at p
        exact .inl ⟨_, _, o1, o2, hl, Post.ok g p (.int _)⟩
      · rw [if_neg hl] at p
        by_cases h2 : j ≠ 0 ∧ j.natAbs < 1073741824
        · rw [if_pos h2] at p
          exact .inr ⟨_, _, o1, o2, h2, Post.ok g p (.int _)⟩
        · rw [if_neg h2] at p; exact p.elim
theorem ok_mod : OpOk K mg (fun x y H Q => rI (fun _ j => 0 < j) (fun i j => V.int (i % j)) x y H Q ∨ rI (fun _ j => j ≠ 0) (fun i j => V.int (i.fmod j)) x y H Q) oMod := by
  intro φ F H S x y v u Q W g r1 r2 p
  cases e1 : view S v with
  | none => simp only [oMod, e1] at p; exact p.elim
  | some d1 =>
    cases e2 : view S u with
    | none => simp only [oMod, e1, e2] at p; cases d1 <;> exact p.elim
    | some d2 =>
      have o1 := ob_of g r1 e1
      have o2 := ob_of g r2 e2
      simp only [oMod, e1, e2] at p
      cases d1 <;> cases d2 <;> dsimp only at p <;> first | exact p.elim | skip
      rename_i i j
      by_cases hl : 0 < j
      · rw [if_pos hl] at p
        exact .inl ⟨_, _, o1, o2, hl, Post.ok g p (.int _)⟩
      · rw [if_neg hl] at p
        by_cases h2 : j ≠ 0
        · rw [if_pos h2] at p
          exact .inr ⟨_, _, o1, o2, h2, Post.ok g p (.int _)⟩
        · rw [if_neg h2] at p; exact p.elim
theorem ok_pow : OpOk K mg (rI CPow fun i j => V.int (i ^ j.toNat)) oPow := by
  intro φ F H S x y v u Q W g r1 r2 p
  cases e1 : view S v with
  | none => simp only [oPow, e1] at p; exact p.elim
  | some d1 =>
    cases e2 : view S u with
    | none => simp only [oPow, e1, e2] at p; cases d1 <;> exact p.elim
    | some d2 =>
      have o1 := ob_of g r1 e1
      have o2 := ob_of g r2 e2
      simp only [oPow, e1, e2] at p
      cases d1 <;> cases d2 <;> dsimp only at p <;> first | exact p.elim | skip
      rename_i i j
      by_cases hl : 0 ≤ j ∧ j ≤ 1000000 ∧ i.natAbs < 2 ^ 64
      · rw [if_pos hl] at p
        exact ⟨_, _, o1, o2, hl, Post.ok g p (.int _)⟩
      · rw [if_neg hl] at p; exact p.elim
theorem ok_neg : UnOk K mg (rU fun i => V.int (-i)) oNeg := by
  intro φ F H S x v Q W g r1 p
  cases e1 : view S v with
  | none => simp only [oNeg, e1] at p; exact p.elim
  | some d1 =>
    have o1 := ob_of g r1 e1
    simp only [oNeg, e1] at p
    cases d1 <;> first | exact p.elim | skip
    exact ⟨_, o1, Post.ok g p (.int _)⟩
def rDD (K : PySem.W.Frag) (c : D → D → Bool) (f : D → D → Bool) : R2 := fun x y H Q => ∃ d e, Dp K H x d ∧ Dp K H y e ∧ shal d = true ∧ shal e = true ∧ c d e = true ∧ Q (.bl (f d e)) H
theorem shal_p {d : D} (h : shal d = true) : d.plain = true ∧ d.depth ≤ 60 := by simpa [shal] using h
theorem ok_eq : OpOk K mg (rDD K (fun _ _ => true) PyData.eqv) oEq := by
  intro φ F H S x y v u Q W g r1 r2 p
  cases e1 : view S v with
  | none => simp only [oEq, e1] at p; exact p.elim
  | some d1 =>
    cases e2 : view S u with
    | none => simp only [oEq, e1, e2] at p; exact p.elim
    | some d2 =>
      simp only [oEq, e1, e2] at p
      by_cases hl : (shal d1 && shal d2) = true
      · rw [if_pos hl] at p
        have h2 : shal d1 = true ∧ shal d2 = true := by simpa using hl
        exact ⟨d1, d2, (ob_of g r1 e1).dp (shal_p h2.1).1, (ob_of g r2 e2).dp (shal_p h2.2).1, h2.1, h2.2, rfl, Post.ok g p (.bl _)⟩
      · rw [if_neg hl] at p; exact p.elim
theorem ok_ne : OpOk K mg (rDD K (fun _ _ => true) fun d e => !PyData.eqv d e) oNe := by
  intro φ F H S x y v u Q W g r1 r2 p
  cases e1 : view S v with
  | none => simp only [oNe, e1] at p; exact p.elim
  | some d1 =>
    cases e2 : view S u with
    | none => simp only [oNe, e1, e2] at p; exact p.elim
    | some d2 =>
      simp only [oNe, e1, e2] at p
      by_cases hl : (shal d1 && shal d2) = true
      · rw [if_pos hl] at p
        have h2 : shal d1 = true ∧ shal d2 = true := by simpa using hl
        exact ⟨d1, d2, (ob_of g r1 e1).dp (shal_p h2.1).1, (ob_of g r2 e2).dp (shal_p h2.2).1, h2.1, h2.2, rfl, Post.ok g p (.bl _)⟩
      · rw [if_neg hl] at p; exact p.elim
def rOrd (K : PySem.W.Frag) (fi : Int → Int → Bool) (f : D → D → Bool) : R2 := fun x y H Q => rI0 (fun i j => V.bl (fi i j)) x y H Q ∨ rDD K ordOk f x y H Q
theorem ordOk_p {x y : D} (h : ordOk x y = true) : shal x = true ∧ shal y = true ∧ PySem.W.alike x y = true ∧ x ≠ .none := by
  simp only [ordOk, Bool.and_eq_true, Bool.not_eq_true'] at h
  obtain ⟨⟨⟨h1, h2⟩, h3⟩, h4⟩ := h
  exact ⟨h1, h2, h3, fun e => by subst e; cases h4⟩
theorem ok_ord {o : Vl → Vl → Store → Res Vl} {fi : Int → Int → Bool} {f : D → D → Bool} (h0 : ∀ v u S, (view S v = none ∨ view S u = none) → o v u S = .bad) (h1 : ∀ v u S i j, view S v = some (.int i) → view S u = some (.int j) → o v u S = .ok (.d (.bool (fi i j))) S)
    (h2 : ∀ v u S d1 d2, view S v = some d1 → view S u = some d2 → (¬ ∃ i j, d1 = .int i ∧ d2 = .int j) → o v u S = if ordOk d1 d2 = true then .ok (.d (.bool (f d1 d2))) S else .bad) : OpOk K mg (rOrd K fi f) o := by
  intro φ F H S x y v u Q W g r1 r2 p
  cases e1 : view S v with
  | none => rw [h0 v u S (.inl e1)] at p; exact p.elim
  | some d1 =>
    cases e2 : view S u with
    | none => rw [h0 v u S (.inr e2)] at p; exact p.elim
    | some d2 =>
      have o1 := ob_of g r1 e1
      have o2 := ob_of g r2 e2
      by_cases q : ∃ i j, d1 = .int i ∧ d2 = .int j
      · obtain ⟨i, j, rfl, rfl⟩ := q
        rw [h1 v u S i j e1 e2] at p
        exact .inl ⟨_, _, o1, o2, Post.ok g p (.bl _)⟩
      · rw [h2 v u S d1 d2 e1 e2 q] at p
        by_cases hl : ordOk d1 d2 = true
        · rw [if_pos hl] at p
          exact .inr ⟨d1, d2, o1.dp (shal_p (ordOk_p hl).1).1, o2.dp (shal_p (ordOk_p hl).2.1).1, (ordOk_p hl).1, (ordOk_p hl).2.1, hl, Post.ok g p (.bl _)⟩
        · rw [if_neg hl] at p; exact p.elim
theorem ok_lt : OpOk K mg (rOrd K (fun i j => decide (i < j)) PySem.W.dataLt) oLt := by
  refine ok_ord (fun v u S h => ?_) (fun v u S i j h1 h2 => by simp only [oLt, h1, h2]) fun v u S d1 d2 h1 h2 n => ?_
  · unfold oLt
    rcases h with h | h
    · simp only [h]
    · cases e : view S v with
      | none => simp only [h]
      | some d => simp only [h]
  · simp only [oLt, h1, h2]
    cases d1 <;> cases d2 <;> first | rfl | exact (n ⟨_, _, rfl, rfl⟩).elim
theorem ok_gt : OpOk K mg (rOrd K (fun i j => decide (j < i)) fun d e => PySem.W.dataLt e d) oGt := by
  refine ok_ord (fun v u S h => ?_) (fun v u S i j h1 h2 => by simp only [oGt, h1, h2]) fun v u S d1 d2 h1 h2 n => ?_
  · unfold oGt
    rcases h with h | h
    · simp only [h]
    · cases e : view S v with
      | none => simp only [h]
      | some d => simp only [h]
  · simp only [oGt, h1, h2]
    cases d1 <;> cases d2 <;> first | rfl | exact (n ⟨_, _, rfl, rfl⟩).elim
theorem ok_le : OpOk K mg (rOrd K (fun i j => decide (i ≤ j)) fun d e => !PySem.W.dataLt e d) oLe := by
  refine ok_ord (fun v u S h => ?_) (fun v u S i j h1 h2 => by simp only [oLe, h1, h2]) fun v u S d1 d2 h1 h2 n => ?_
  · unfold oLe
    rcases h with h | h
    · simp only [h]
    · cases e : view S v with
      | none => simp only [h]
      | some d => simp only [h]
  · simp only [oLe, h1, h2]
    cases d1 <;> cases d2 <;> first | rfl | exact (n ⟨_, _, rfl, rfl⟩).elim
theorem ok_ge : OpOk K mg (rOrd K (fun i j => decide (j ≤ i)) fun d e => !PySem.W.dataLt d e) oGe := by
  refine ok_ord (fun v u S h => ?_) (fun v u S i j h1 h2 => by simp only [oGe, h1, h2]) fun v u S d1 d2 h1 h2 n => ?_
  · unfold oGe
    rcases h with h | h
    · simp only [h]
    · cases e : view S v with
      | none => simp only [h]
      | some d => simp only [h]
  · simp only [oGe, h1, h2]
    cases d1 <;> cases d2 <;> first | rfl | exact (n ⟨_, _, rfl, rfl⟩).elim
def rInP (K : PySem.W.Frag) (neg : Bool) : R2 := fun x y H Q => ∃ d es, Dp K H x d ∧ (Dp K H y (.list es) ∨ Dp K H y (.tuple es)) ∧ shal d = true ∧ shal (.list es) = true ∧ Q (.bl (if neg = true then !isIn d es else isIn d es)) H
theorem shal_tup {es : List D} : shal (.tuple es) = shal (.list es) := by simp [shal, PyData.plain, PyData.depth]
theorem ok_in {neg : Bool} : OpOk K mg (rInP K neg) (oIn neg) := by
  intro φ F H S x y v u Q W g r1 r2 p
  cases e1 : view S v with
  | none => simp only [oIn, e1] at p; exact p.elim
  | some d1 =>
    cases e2 : view S u with
    | none => simp only [oIn, e1, e2] at p; exact p.elim
    | some d2 =>
      simp only [oIn, e1, e2] at p
      cases d2 <;> dsimp only at p <;> first | exact p.elim | skip
      · rename_i es
        by_cases hl : (shal d1 && shal (.list es)) = true
        · rw [if_pos hl] at p
          have h2 : shal d1 = true ∧ shal (.list es) = true := by simpa using hl
          exact ⟨d1, es, (ob_of g r1 e1).dp (shal_p h2.1).1, .inl ((ob_of g r2 e2).dp (shal_p h2.2).1), h2.1, h2.2, Post.ok g p (.bl _)⟩
        · rw [if_neg hl] at p; exact p.elim
      · rename_i es
        by_cases hl : (shal d1 && shal (.tuple es)) = true
        · rw [if_pos hl] at p
          have h2 : shal d1 = true ∧ shal (.tuple es) = true := by simpa using hl
          exact ⟨d1, es, (ob_of g r1 e1).dp (shal_p h2.1).1, .inr ((ob_of g r2 e2).dp (shal_p h2.2).1), h2.1, by rw [← shal_tup]; exact h2.2, Post.ok g p (.bl _)⟩
        · rw [if_neg hl] at p; exact p.elim
def rIsX (neg : Bool) : R2 := fun x y H Q => (y = .non ∧ Q (.bl (if neg = true then !decide (x = .non) else decide (x = .non))) H) ∨ ∃ a b : Bool, x = .bl a ∧ y = .bl b ∧ Q (.bl (if neg = true then !decide (a = b) else decide (a = b))) H
theorem isNone_ob {d : D} (o : Ob K F H x d) : decide (x = .non) = isNone d := by
  cases d with
  | none => cases o; rfl
  | bool b => cases o; rfl
  | int b => cases o; rfl
  | str b => cases o; rfl
  | list b => obtain ⟨a, xs, rfl, _⟩ := o; rfl
  | tuple b => obtain ⟨a, xs, rfl, _⟩ := o; rfl
  | dict b => obtain ⟨a, xs, rfl, _⟩ := o; rfl
theorem ok_is {neg : Bool} : OpOk K mg (rIsX neg) (oIs neg) := by
  intro φ F H S x y v u Q W g r1 r2 p
  cases e2 : view S u with
  | none => simp only [oIs, e2] at p; exact p.elim
  | some d2 =>
    have o2 := ob_of g r2 e2
    simp only [oIs, e2] at p
    cases d2 <;> first | exact p.elim | skip
    · cases e1 : view S v with
      | none => simp only [e1] at p; exact p.elim
      | some d1 =>
        simp only [e1] at p
        refine .inl ⟨o2, ?_⟩
        rw [isNone_ob (ob_of g r1 e1)]
        exact Post.ok g p (.bl _)
    · cases e1 : view S v with
      | none => simp only [e1] at p; exact p.elim
      | some d1 =>
        simp only [e1] at p
        cases d1 <;> first | exact p.elim | skip
        exact .inr ⟨_, _, ob_of g r1 e1, o2, Post.ok g p (.bl _)⟩
theorem FzAll.atI {xs : List V} {ds : List D} {i : Int} {d : D} (h : FzAll K F H xs ds) (e : atI ds i = some d) : ∃ v, atI xs i = some v ∧ Fz K F H v d := by
  unfold L2.atI at e ⊢
  rw [h.len]
  cases q : ixN ds.length i with
  | none => rw [q] at e; cases e
  | some j =>
    rw [q] at e
    exact h.get e
theorem ok_ix : OpOk K mg (rIx K) oIx := by
  intro φ F H S x y v u Q W g r1 r2 p
  cases e1 : view S v with
  | none => simp only [oIx, e1] at p; exact p.elim
  | some d1 =>
    cases e2 : view S u with
    | none => simp only [oIx, e1, e2] at p; cases d1 <;> exact p.elim
    | some d2 =>
      have o1 := ob_of g r1 e1
      have o2 := ob_of g r2 e2
      simp only [oIx, e1, e2] at p
      cases d1 <;> cases d2 <;> dsimp only at p <;> first | exact p.elim | skip
      · rename_i z i
        by_cases hl : z.length ≤ sizeLine
        · rw [if_pos hl] at p
          cases q : atI z.cps.toList i with
          | none => rw [q] at p; exact p.elim
          | some c =>
            rw [q] at p
            exact .inr (.inr ⟨z, i, c, o1, o2, hl, q, Post.ok g p (.str _)⟩)
        · rw [if_neg hl] at p; exact p.elim
      · rename_i ds i
        obtain ⟨a, xs, h1, h2, h3⟩ := o1
        cases q : atI ds i with
        | none => rw [q] at p; exact p.elim
        | some d =>
          rw [q] at p
          obtain ⟨w, hw, fw⟩ := h3.atI q
          exact .inl ⟨a, xs, i, w, h1, o2, .inl (.inl h2), hw, Post.ok g p fw⟩
      · rename_i ds i
        obtain ⟨a, xs, h1, h2, h3⟩ := o1
        cases q : atI ds i with
        | none => rw [q] at p; exact p.elim
        | some d =>
          rw [q] at p
          obtain ⟨w, hw, fw⟩ := h3.atI q
          exact .inr (.inl ⟨a, xs, i, w, h1, o2, h2.sq, hw, Post.ok g p fw⟩)
end
section
variable {X : Cx}
theorem op_addX : OpR X (binaryOp .Add) (fun x y H Q => rI0 (fun i j => V.int (i + j)) x y H Q ∨ (∃ i j, x = .str i ∧ y = .str j ∧ i.length + j.length ≤ sizeLine ∧ Q (.str (i ++ j)) H) ∨ rCatA X.K x y H Q ∨ rCat x y H Q) := op_add.or (op_add_str.or (op_catA.or op_cat))
theorem op_mulX' : OpR X (binaryOp .Mult) (fun x y H Q => rMulX x y H Q ∨ rRep x y H Q ∨ rRepT X.K x y H Q) := OpR.or (opI fun _ _ _ _ _ _ _ hc q => mul_int q (mulOk_ok hc)) (op_rep.or op_repT)
theorem op_divX : OpR X (binaryOp .FloorDiv) (fun x y H Q => rDivX x y H Q ∨ rI CDivN (fun i j => V.int (i.fdiv j)) x y H Q) := by
  refine OpR.or (fun pins s σ H x y v u Q I rx ry h => ?_) op_fdivN
  obtain ⟨i, j, e1, e2, ⟨h1, h2⟩, q⟩ := h
  refine op_fdivW pins s σ H x y v u Q I rx ry ⟨i, j, e1, e2, ⟨h1, ?_⟩, q⟩
  exact Nat.lt_of_le_of_lt (log2_lt (natAbs_pow h1 h2)) (by decide)
theorem op_modX : OpR X (binaryOp .Mod) (fun x y H Q => rI (fun _ j => 0 < j) (fun i j => V.int (i % j)) x y H Q ∨ rI (fun _ j => j ≠ 0) (fun i j => V.int (i.fmod j)) x y H Q) := op_mod.or op_modN
theorem depth_min {A : Around} {d e : D} (hu : A.units + 64 < cLine) (h : shal d = true) : A.units + min d.depth e.depth < cLine := by
  have := (shal_p h).2
  omega
theorem op_eqX (hu : X.A.units + 64 < cLine) : OpR X (compareOp .Eq) (rDD X.K (fun _ _ => true) PyData.eqv) := by
  intro pins s σ H x y v u Q I rx ry h
  obtain ⟨d, e, hd, he, sd, se, _, q⟩ := h
  obtain ⟨as, r1⟩ := Dp.reads I d x v hd rx
  obtain ⟨bs, r2⟩ := Dp.reads I e y u he ry
  exact PySem.SeqAt.eq_plain r1 r2 (shal_p sd).1 (shal_p se).1 (depth_min hu sd) ⟨.bl _, H, I, rfl, q⟩
theorem op_neX (hu : X.A.units + 64 < cLine) : OpR X (compareOp .NotEq) (rDD X.K (fun _ _ => true) fun d e => !PyData.eqv d e) := by
  intro pins s σ H x y v u Q I rx ry h
  obtain ⟨d, e, hd, he, sd, se, _, q⟩ := h
  obtain ⟨as, r1⟩ := Dp.reads I d x v hd rx
  obtain ⟨bs, r2⟩ := Dp.reads I e y u he ry
  exact PySem.SeqAt.ne_plain r1 r2 (shal_p sd).1 (shal_p se).1 (depth_min hu sd) ⟨.bl _, H, I, rfl, q⟩
theorem op_ltX (hu : X.A.units + 64 < cLine) : OpR X (compareOp .Lt) (rOrd X.K (fun i j => decide (i < j)) PySem.W.dataLt) := by
  refine OpR.or op_lt fun pins s σ H x y v u Q I rx ry h => ?_
  obtain ⟨d, e, hd, he, sd, se, c, q⟩ := h
  obtain ⟨as, r1⟩ := Dp.reads I d x v hd rx
  obtain ⟨bs, r2⟩ := Dp.reads I e y u he ry
  exact PySem.W.lt_data r1 r2 (ordOk_p c).2.2.1 (ordOk_p c).2.2.2 (depth_min hu sd) ⟨.bl _, H, I, rfl, q⟩
theorem op_gtX (hu : X.A.units + 64 < cLine) : OpR X (compareOp .Gt) (rOrd X.K (fun i j => decide (j < i)) fun d e => PySem.W.dataLt e d) := by
  refine OpR.or op_gt fun pins s σ H x y v u Q I rx ry h => ?_
  obtain ⟨d, e, hd, he, sd, se, c, q⟩ := h
  obtain ⟨as, r1⟩ := Dp.reads I d x v hd rx
  obtain ⟨bs, r2⟩ := Dp.reads I e y u he ry
  exact PySem.W.gt_data r1 r2 (ordOk_p c).2.2.1 (ordOk_p c).2.2.2 (depth_min hu sd) ⟨.bl _, H, I, rfl, q⟩
theorem op_leX (hu : X.A.units + 64 < cLine) : OpR X (compareOp .LtE) (rOrd X.K (fun i j => decide (i ≤ j)) fun d e => !PySem.W.dataLt e d) := by
  refine OpR.or op_le fun pins s σ H x y v u Q I rx ry h => ?_
  obtain ⟨d, e, hd, he, sd, se, c, q⟩ := h
  obtain ⟨as, r1⟩ := Dp.reads I d x v hd rx
  obtain ⟨bs, r2⟩ := Dp.reads I e y u he ry
  exact PySem.W.le_data r1 r2 (ordOk_p c).2.2.1 (ordOk_p c).2.2.2 (depth_min hu sd) ⟨.bl _, H, I, rfl, q⟩
theorem op_geX (hu : X.A.units + 64 < cLine) : OpR X (compareOp .GtE) (rOrd X.K (fun i j => decide (j ≤ i)) fun d e => !PySem.W.dataLt d e) := by
  refine OpR.or op_ge fun pins s σ H x y v u Q I rx ry h => ?_
  obtain ⟨d, e, hd, he, sd, se, c, q⟩ := h
  obtain ⟨as, r1⟩ := Dp.reads I d x v hd rx
  obtain ⟨bs, r2⟩ := Dp.reads I e y u he ry
  exact PySem.W.ge_data r1 r2 (ordOk_p c).2.2.1 (ordOk_p c).2.2.2 (depth_min hu sd) ⟨.bl _, H, I, rfl, q⟩
theorem shal_list {es : List D} (h : shal (.list es) = true) : PyData.plainAll es = true ∧ PyData.depthAll es ≤ 59 := by
  have := shal_p h
  simp only [PyData.plain, PyData.depth] at this
  exact ⟨this.1, by omega⟩
theorem op_inX (hu : X.A.units + 64 < cLine) : OpR X (compareOp .In) (rInP X.K false) := by
  intro pins s σ H x y v u Q I rx ry h
  obtain ⟨d, es, hd, he, sd, se, q⟩ := h
  obtain ⟨as, r1⟩ := Dp.reads I d x v hd rx
  have hr : X.A.units + 1 + min (PyData.depthAll es) d.depth < cLine := by have := (shal_p sd).2; omega
  rcases he with he | he
  · obtain ⟨bs, r2⟩ := Dp.reads I _ y u he ry
    exact PySem.SeqAt.in_list_data r2 r1 (shal_list se).1 (shal_p sd).1 hr ⟨.bl _, H, I, rfl, q⟩
  · obtain ⟨bs, r2⟩ := Dp.reads I _ y u he ry
    exact PySem.SeqAt.in_tuple_data r2 r1 (shal_list se).1 (shal_p sd).1 hr ⟨.bl _, H, I, rfl, q⟩
theorem op_notInX (hu : X.A.units + 64 < cLine) : OpR X (compareOp .NotIn) (rInP X.K true) := by
  intro pins s σ H x y v u Q I rx ry h
  obtain ⟨d, es, hd, he, sd, se, q⟩ := h
  obtain ⟨as, r1⟩ := Dp.reads I d x v hd rx
  have hr : X.A.units + 1 + min (PyData.depthAll es) d.depth < cLine := by have := (shal_p sd).2; omega
  rcases he with he | he
  · obtain ⟨bs, r2⟩ := Dp.reads I _ y u he ry
    exact PySem.SeqAt.notIn_list_data r2 r1 (shal_list se).1 (shal_p sd).1 hr ⟨.bl _, H, I, rfl, q⟩
  · obtain ⟨bs, r2⟩ := Dp.reads I _ y u he ry
    exact PySem.SeqAt.notIn_tuple_data r2 r1 (shal_list se).1 (shal_p sd).1 hr ⟨.bl _, H, I, rfl, q⟩
theorem op_isX : OpR X (compareOp .Is) (rIsX false) := OpR.or op_isN op_isBl
theorem op_isNotX : OpR X (compareOp .IsNot) (rIsX true) := OpR.or op_notN op_notBl
end
section
variable {X : Cx} {W : WX} {k : Nat} {a b e : Expr} {fa fb : Ev} {pos : Pos}
theorem de_ix {j : Nat} (ha : DE X W a fa) (hb : DE X W b fb) (hs : PlainIx b := by exact fun _ _ => rfl) : DE X W (.Subscript a b pos) (eBin oIx fa fb) := ⟨PE.mono (pe_ix ix_seq ha.r hb.r hs) fun _ _ _ h => re2 ok_ix h⟩
end
def tyN : D → String
  | .none => "NoneType"
  | .bool _ => "bool"
  | .int _ => "int"
  | .str _ => "str"
  | .list _ => "list"
  | .tuple _ => "tuple"
  | .dict _ => "dict"
def isTy : Ty → D → Bool
  | .int, .int _ => true
  | .int, .bool _ => true
  | .bool, .bool _ => true
  | .str, .str _ => true
  | .tup, .tuple _ => true
  | .lst, .list _ => true
  | .dct, .dict _ => true
  | _, _ => false
theorem kit_isTy {K : PySem.W.Frag} (T : Ty) (d : D) : PySem.W.kitOne K (.type (tyN d)) (.type T.name) = some (isTy T d) := by
  cases T <;> cases d <;> (refine kit_ty ?_; dsimp only [tyN, Ty.name, isTy]; decide +kernel)
section
variable {K : PySem.W.Frag} {mg : Str → Option Value} {φ : Nat → Addr} {F : Addr → Prop} {H : Hp} {S : Store} {x y : V} {v u : Vl} {Q : VK} {W : XW} {n : Nat} {m : Bool}
theorem Ob.ty {d : D} (o : Ob K F H x d) : TyX K H x (.type (tyN d)) := by
  cases d with
  | none => cases o; exact .base .non
  | bool b => cases o; exact .base (.bl _)
  | int b => cases o; exact .base (.int _)
  | str b => cases o; exact .base (.str _)
  | list b => obtain ⟨a, xs, rfl, h, _⟩ := o; exact .base (.lst h)
  | tuple b =>
    obtain ⟨a, xs, rfl, h, _⟩ := o
    rcases h with ⟨_, h⟩ | ⟨o, its, n, h1, h2, h3, _⟩
    · exact .base (.tup h)
    · exact .kTuple h1 h2
  | dict b => obtain ⟨a, xs, rfl, h, _⟩ := o; exact .base (.dK h)
theorem reps1 {xs : List V} {v : Vl} (r : RepVs K mg φ F H n xs [v]) : ∃ x, xs = [x] ∧ RepV K mg φ F H n x v := by
  cases xs with
  | nil => exact r.elim
  | cons x xs =>
    cases xs with
    | nil => exact ⟨x, rfl, r.1⟩
    | cons y ys => exact r.2.elim
theorem reps2 {xs : List V} {v u : Vl} (r : RepVs K mg φ F H n xs [v, u]) : ∃ x y, xs = [x, y] ∧ RepV K mg φ F H n x v ∧ RepV K mg φ F H n y u := by
  cases xs with
  | nil => exact r.elim
  | cons x xs =>
    obtain ⟨y, e, h⟩ := reps1 r.2
    exact ⟨x, y, by rw [e], r.1, h⟩
end
def fIsi : Fn := fun vs S => match vs with
  | [v, .ty T] => match view S v with
    | some d => .ok (.d (.bool (isTy T d))) S
    | none => .bad
  | [v, .tys Ts] => match view S v with
    | some d => .ok (.d (.bool (Ts.any fun T => isTy T d))) S
    | none => .bad
  | _ => .bad
theorem kit_any {K : PySem.W.Frag} {d : D} : ∀ Ts : List Ty, PySem.W.kitAny K (.type (tyN d)) (Ts.map fun T => .type T.name) = some (Ts.any fun T => isTy T d)
  | [] => rfl
  | T :: Ts => by
    show PySem.W.kitAny K _ (Value.type T.name :: Ts.map fun T => .type T.name) = _
    unfold PySem.W.kitAny
    rw [kit_isTy, List.any_cons]
    cases e : isTy T d with
    | true => rfl
    | false => exact kit_any Ts
theorem ok_isi {K : PySem.W.Frag} {mg : Str → Option Value} : CallOk K mg (fun xs H Q => rIsi K xs H Q ∨ rIsiT K xs H Q) fIsi := by
  intro φ F H S xs vs Q W g r p
  unfold fIsi at p
  split at p
  · rename_i v T
    obtain ⟨x, y, rfl, r1, r2⟩ := reps2 r
    cases e : view S v with
    | none => rw [e] at p; exact p.elim
    | some d =>
      rw [e] at p
      have r2 : y = .ty T.name := r2
      subst r2
      exact .inl ⟨x, _, _, _, _, rfl, .ty _, (ob_of g r1 e).ty, kit_isTy T d, Post.ok g p (.bl _)⟩
  · rename_i v Ts
    obtain ⟨x, y, rfl, r1, r2⟩ := reps2 r
    cases e : view S v with
    | none => rw [e] at p; exact p.elim
    | some d =>
      rw [e] at p
      obtain ⟨a, rfl, h1, h2⟩ := r2
      refine .inr ⟨x, a, _, _, Ts.map fun T => .type T.name, _, rfl, h2, ?_, (ob_of g r1 e).ty, kit_any Ts, Post.ok g p (.bl _)⟩
      clear h2 p e r
      induction Ts with
      | nil => exact .nil
      | cons T Ts ih => exact .cons (.ty _) ih
  · exact p.elim
theorem call_isiX {X : Cx} : CallR X (.builtin "isinstance") (fun xs H Q => rIsi X.K xs H Q ∨ rIsiT X.K xs H Q) := call_isi.or call_isiT
def fLen : Fn := fun vs S => match vs with
  | [v] => match view S v with
    | some (.list xs) => .ok (.d (.int xs.length)) S
    | some (.tuple xs) => .ok (.d (.int xs.length)) S
    | some (.str z) => if z.length ≤ sizeLine then .ok (.d (.int z.length)) S else .bad
    | some (.dict es) => .ok (.d (.int es.length)) S
    | _ => .bad
  | _ => .bad
def fAbs : Fn := fun vs S => match vs with
  | [v] => match view S v with
    | some (.int i) => .ok (.d (.int (if i < 0 then -i else i))) S
    | _ => .bad
  | _ => .bad
def fInt : Fn := fun vs S => match vs with
  | [v] => match view S v with
    | some (.int i) => .ok (.d (.int i)) S
    | some (.bool k) => .ok (.d (.int (if k then 1 else 0))) S
    | _ => .bad
  | _ => .bad
def fMax2 : Fn := fun vs S => match vs with
  | [v, u] => match view S v, view S u with
    | some (.int i), some (.int j) => .ok (.d (.int (if j > i then j else i))) S
    | _, _ => .bad
  | _ => .bad
def fMin2 : Fn := fun vs S => match vs with
  | [v, u] => match view S v, view S u with
    | some (.int i), some (.int j) => .ok (.d (.int (if j < i then j else i))) S
    | _, _ => .bad
  | _ => .bad
section
variable {K : PySem.W.Frag} {mg : Str → Option Value}
theorem ok_abs : CallOk K mg (fun xs H Q => ∃ i, xs = [.int i] ∧ Q (.int (if i < 0 then -i else i)) H) fAbs := by
  intro φ F H S xs vs Q W g r p
  unfold fAbs at p
  split at p
  · rename_i v
    obtain ⟨x, rfl, r1⟩ := reps1 r
    cases e : view S v with
    | none => rw [e] at p; exact p.elim
    | some d =>
      rw [e] at p
      have o := ob_of g r1 e
      cases d <;> first | exact p.elim | skip
      exact ⟨_, by rw [show x = _ from o], Post.ok g p (.int _)⟩
  · exact p.elim
theorem ok_int : CallOk K mg (fun xs H Q => (∃ i, xs = [.int i] ∧ Q (.int i) H) ∨ ∃ k, xs = [.bl k] ∧ Q (.int (if k then 1 else 0)) H) fInt := by
  intro φ F H S xs vs Q W g r p
  unfold fInt at p
  split at p
  · rename_i v
    obtain ⟨x, rfl, r1⟩ := reps1 r
    cases e : view S v with
    | none => rw [e] at p; exact p.elim
    | some d =>
      rw [e] at p
      have o := ob_of g r1 e
      cases d <;> first | exact p.elim | skip
      · exact .inr ⟨_, by rw [show x = _ from o], Post.ok g p (.int _)⟩
      · exact .inl ⟨_, by rw [show x = _ from o], Post.ok g p (.int _)⟩
  · exact p.elim
theorem ok_max2 : CallOk K mg (fun xs H Q => ∃ i j, xs = [.int i, .int j] ∧ Q (.int (if j > i then j else i)) H) fMax2 := by
  intro φ F H S xs vs Q W g r p
  unfold fMax2 at p
  split at p
  · rename_i v u
    obtain ⟨x, y, rfl, r1, r2⟩ := reps2 r
    split at p
    · rename_i i j e1 e2
      exact ⟨i, j, by rw [show x = _ from ob_of g r1 e1, show y = _ from ob_of g r2 e2], Post.ok g p (.int _)⟩
    · exact p.elim
  · exact p.elim
theorem ok_min2 : CallOk K mg (fun xs H Q => ∃ i j, xs = [.int i, .int j] ∧ Q (.int (if j < i then j else i)) H) fMin2 := by
  intro φ F H S xs vs Q W g r p
  unfold fMin2 at p
  split at p
  · rename_i v u
    obtain ⟨x, y, rfl, r1, r2⟩ := reps2 r
    split at p
    · rename_i i j e1 e2
      exact ⟨i, j, by rw [show x = _ from ob_of g r1 e1, show y = _ from ob_of g r2 e2], Post.ok g p (.int _)⟩
    · exact p.elim
  · exact p.elim
def rLenX (K : PySem.W.Frag) : List V → Hp → VK → Prop := fun xs H Q => (∃ p ys, xs = [.ref p] ∧ (SqL K H p ys ∨ SqT K H p ys) ∧ Q (.int ys.length) H) ∨ (∃ z, xs = [.str z] ∧ z.length ≤ sizeLine ∧ Q (.int z.length) H) ∨ ∃ a kvs, xs = [V.ref a] ∧ H a = some (.dK kvs) ∧ Q (.int kvs.length) H
theorem ok_len : CallOk K mg (rLenX K) fLen := by
  intro φ F H S xs vs Q W g r p
  unfold fLen at p
  split at p
  · rename_i v
    obtain ⟨x, rfl, r1⟩ := reps1 r
    split at p
    · rename_i ds e
      obtain ⟨a, xs, rfl, h1, h2⟩ := ob_of g r1 e
      exact .inl ⟨a, xs, rfl, .inl (.inl (.inl h1)), by rw [h2.len]; exact Post.ok g p (.int _)⟩
    · rename_i ds e
      obtain ⟨a, xs, rfl, h1, h2⟩ := ob_of g r1 e
      exact .inl ⟨a, xs, rfl, .inr h1.sq, by rw [h2.len]; exact Post.ok g p (.int _)⟩
    · rename_i z e
      by_cases hl : z.length ≤ sizeLine
      · rw [if_pos hl] at p
        exact .inr (.inl ⟨z, by rw [show x = _ from ob_of g r1 e], hl, Post.ok g p (.int _)⟩)
      · rw [if_neg hl] at p; exact p.elim
    · rename_i ds e
      obtain ⟨a, xs, rfl, h1, h2⟩ := ob_of g r1 e
      exact .inr (.inr ⟨a, xs, rfl, h1, by rw [h2.len]; exact Post.ok g p (.int _)⟩)
    · exact p.elim
  · exact p.elim
theorem call_lenX {X : Cx} : CallR X (.builtin "len") (rLenX X.K) := call_len_seq.or (call_len_str.or call_lenD)
end
def seqOf : D → Option (List D)
  | .list xs => some xs
  | .tuple xs => some xs
  | _ => none
def rSeq (K : PySem.W.Frag) (c : List D → Prop) (k : List D → List V → Hp → VK → Prop) : List V → Hp → VK → Prop := fun vs H Q => ∃ a xs ds, vs = [.ref a] ∧ (SqL K H a xs ∨ SqT K H a xs) ∧ DpAll K H xs ds ∧ PyData.plainAll ds = true ∧ PyData.depthAll ds ≤ 60 ∧ c ds ∧ k ds xs H Q
def seqOk (ds : List D) : Bool := PyData.plainAll ds && decide (PyData.depthAll ds ≤ 60)
def fSeq (k : List D → Store → Res Vl) : Fn := fun vs S => match vs with
  | [v] => match view S v with
    | some d => match seqOf d with
      | some ds => if seqOk ds = true then k ds S else .bad
      | none => .bad
    | none => .bad
  | _ => .bad
theorem seqOk_p {ds : List D} (h : seqOk ds = true) : PyData.plainAll ds = true ∧ PyData.depthAll ds ≤ 60 := by simpa [seqOk] using h
theorem ok_seq {K : PySem.W.Frag} {mg : Str → Option Value} {c : List D → Prop} {k : List D → List V → Hp → VK → Prop} {o : List D → Store → Res Vl}
    (h : ∀ {φ : Nat → Addr} {F : Addr → Prop} {H : Hp} {S : Store} {xs : List V} {ds : List D} {Q : VK} {W : XW}, SG K φ F H S → FzAll K F H xs ds → Post K mg W S.length φ F H Q (o ds S) → c ds ∧ k ds xs H Q) : CallOk K mg (rSeq K c k) (fSeq o) := by
  intro φ F H S xs vs Q W g r p
  unfold fSeq at p
  split at p
  · rename_i v
    obtain ⟨x, rfl, r1⟩ := reps1 r
    cases e : view S v with
    | none => rw [e] at p; exact p.elim
    | some d =>
      simp only [e] at p
      have ob := ob_of g r1 e
      cases e2 : seqOf d with
      | none => simp only [e2] at p; exact p.elim
      | some ds =>
        simp only [e2] at p
        by_cases hl : seqOk ds = true
        · simp only [hl, if_true] at p
          have hp := seqOk_p hl
          cases d <;> first | (cases e2; skip) | cases e2
          · obtain ⟨a, ys, rfl, h1, h2⟩ := ob
            exact ⟨a, ys, ds, rfl, .inl (.inl (.inl h1)), h2.dp _ _ hp.1, hp.1, hp.2, h g h2 p⟩
          · obtain ⟨a, ys, rfl, h1, h2⟩ := ob
            exact ⟨a, ys, ds, rfl, .inr h1.sq, h2.dp _ _ hp.1, hp.1, hp.2, h g h2 p⟩
        · simp only [hl] at p; exact p.elim
  · exact p.elim
def alikeOk (ds : List D) : Bool := (ds.all fun x => ds.all fun y => PySem.W.alike x y) && ds.all fun x => !isNone x
theorem alikeOk_p {ds : List D} (h : alikeOk ds = true) : PySem.W.AlikeAll ds := by
  simp only [alikeOk, Bool.and_eq_true, List.all_eq_true, Bool.not_eq_true'] at h
  exact ⟨h.1, fun x hx e => by subst e; exact nomatch h.2 _ hx⟩
def fitsB : D → Bool
  | .str x => decide (x.length ≤ sizeLine)
  | .list xs => decide (xs.length ≤ sizeLine)
  | .tuple xs => decide (xs.length ≤ sizeLine)
  | _ => true
theorem fitsB_p {d : D} (h : fitsB d = true) : d.fits63 := by
  cases d with
  | str x =>
    have h' : x.length ≤ sizeLine := of_decide_eq_true h
    rw [sizeLine_eq] at h'
    simp only [PyData.fits63]
    omega
  | list x =>
    have h' : x.length ≤ sizeLine := of_decide_eq_true h
    rw [sizeLine_eq] at h'
    simp only [PyData.fits63]
    omega
  | tuple x =>
    have h' : x.length ≤ sizeLine := of_decide_eq_true h
    rw [sizeLine_eq] at h'
    simp only [PyData.fits63]
    omega
  | _ => trivial
def fAll : Fn := fSeq fun ds S => if ds.all fitsB = true then .ok (.d (.bool (ds.all PyData.truthy))) S else .bad
def fAny : Fn := fSeq fun ds S => if ds.all fitsB = true then .ok (.d (.bool (ds.any PyData.truthy))) S else .bad
def fMin1 : Fn := fSeq fun ds S => match ds with
  | [] => .bad
  | x :: xs => if alikeOk (x :: xs) = true then .ok (.d (PySem.W.minD x xs)) S else .bad
def fMax1 : Fn := fSeq fun ds S => match ds with
  | [] => .bad
  | x :: xs => if alikeOk (x :: xs) = true then .ok (.d (PySem.W.maxD x xs)) S else .bad
def intOf : D → Option Int
  | .int i => some i
  | _ => none
def intsOf : List D → Option (List Int)
  | [] => some []
  | .int i :: ds => (intsOf ds).map (i :: ·)
  | _ :: _ => none
def fSum : Fn := fSeq fun ds S => match intsOf ds with
  | some ns => .ok (.d (.int ns.sum)) S
  | none => .bad
def sortB (ds : List D) : Bool := alikeOk ds && ((ds.all fun d => match d with | .tuple (_ :: _) => true | _ => false) || ds.all fun d => match d with | .tuple _ => false | _ => true)
theorem sortB_p {ds : List D} (h : sortB ds = true) : PySem.W.AllAlike ds ∧ PySem.W.Sortable ds := by
  simp only [sortB, Bool.and_eq_true, Bool.or_eq_true, List.all_eq_true] at h
  obtain ⟨h1, h2⟩ := h
  have a := alikeOk_p h1
  refine ⟨fun d hd e he => a.1 d hd e he, h2.imp (fun h d hd => ?_) fun h d hd => ⟨a.2 d hd, fun xs e => ?_⟩⟩
  · have q := h d hd
    split at q
    · exact ⟨_, _, rfl⟩
    · cases q
  · have q := h d hd
    subst e
    cases q
def sortD (ds : List D) : List D := ds.mergeSort (PySem.W.dataLe false fun d => d)
def fSorted (m : Bool) : Fn := fSeq fun ds S => if (sortB ds && decide (ds.length ≤ sizeLine)) = true then mkL m (sortD ds) S else .bad
def fList (m : Bool) : Fn := fun vs S => match vs with
  | [v] => match view S v with
    | some (.list xs) => mkL m xs S
    | some (.tuple xs) => mkL m xs S
    | _ => .bad
  | _ => .bad
def fTuple : Fn := fun vs S => match vs with
  | [v] => match view S v with
    | some (.list xs) => .ok (.d (.tuple xs)) S
    | some (.tuple xs) => .ok (.d (.tuple xs)) S
    | _ => .bad
  | _ => .bad
section
variable {K : PySem.W.Frag} {mg : Str → Option Value} {F : Addr → Prop} {H : Hp}
theorem ok_allF : CallOk K mg (rSeq K (fun ds => ds.all fitsB = true) fun ds _ H Q => Q (.bl (ds.all PyData.truthy)) H) fAll := ok_seq fun {φ F H S xs ds Q W} g f p => by
  by_cases hl : ds.all fitsB = true
  · simp only [hl, if_true] at p
    exact ⟨hl, Post.ok g p (.bl _)⟩
  · simp only [hl] at p; exact p.elim
theorem ok_anyF : CallOk K mg (rSeq K (fun ds => ds.all fitsB = true) fun ds _ H Q => Q (.bl (ds.any PyData.truthy)) H) fAny := ok_seq fun {φ F H S xs ds Q W} g f p => by
  by_cases hl : ds.all fitsB = true
  · simp only [hl, if_true] at p
    exact ⟨hl, Post.ok g p (.bl _)⟩
  · simp only [hl] at p; exact p.elim
theorem ok_min1 : CallOk K mg (rSeq K (fun ds => ds ≠ [] ∧ alikeOk ds = true) fun ds xs H Q => ∀ (x : D) (r : List D), ds = x :: r → ∀ (i : Nat) (v : V), (xs : List V)[i]? = some v → ds[i]? = some (PySem.W.minD x r) → Q v H) fMin1 := ok_seq fun {φ F H S xs ds Q W} g f p => by
  cases ds with
  | nil => exact p.elim
  | cons x r =>
    by_cases hl : alikeOk (x :: r) = true
    · simp only [hl, if_true] at p
      refine ⟨⟨by simp, hl⟩, fun x' r' e i v h1 h2 => ?_⟩
      cases e
      obtain ⟨w, h3, h4⟩ := f.get h2
      rw [h1] at h3
      cases h3
      exact Post.ok g p h4
    · simp only [hl] at p; exact p.elim
theorem ok_max1 : CallOk K mg (rSeq K (fun ds => ds ≠ [] ∧ alikeOk ds = true) fun ds xs H Q => ∀ (x : D) (r : List D), ds = x :: r → ∀ (i : Nat) (v : V), (xs : List V)[i]? = some v → ds[i]? = some (PySem.W.maxD x r) → Q v H) fMax1 := ok_seq fun {φ F H S xs ds Q W} g f p => by
  cases ds with
  | nil => exact p.elim
  | cons x r =>
    by_cases hl : alikeOk (x :: r) = true
    · simp only [hl, if_true] at p
      refine ⟨⟨by simp, hl⟩, fun x' r' e i v h1 h2 => ?_⟩
      cases e
      obtain ⟨w, h3, h4⟩ := f.get h2
      rw [h1] at h3
      cases h3
      exact Post.ok g p h4
    · simp only [hl] at p; exact p.elim
theorem intsOf_fz : ∀ {ds : List D} {ns : List Int} {xs : List V}, intsOf ds = some ns → FzAll K F H xs ds → xs = ns.map V.int
  | [], ns, xs, e, h => by cases e; cases h; rfl
  | d :: ds, ns, xs, e, h => by
    cases d <;> first | cases e | skip
    rename_i i
    cases q : intsOf ds with
    | none => simp [intsOf, q] at e
    | some ms =>
      simp [intsOf, q] at e
      subst e
      cases h with
      | cons h1 h2 =>
        cases h1
        rw [intsOf_fz q h2]
        rfl
theorem ok_sumF : CallOk K mg (rSeq K (fun _ => True) fun ds xs H Q => ∃ ns : List Int, xs = ns.map V.int ∧ Q (.int ns.sum) H) fSum := ok_seq fun {φ F H S xs ds Q W} g f p => by
  cases e : intsOf ds with
  | none => simp only [e] at p; exact p.elim
  | some ns =>
    simp only [e] at p
    exact ⟨trivial, ns, intsOf_fz e f, Post.ok g p (.int _)⟩
theorem ok_list {m : Bool} : CallOk K mg (fun xs H Q => ∃ p ys, xs = [.ref p] ∧ (SqL K H p ys ∨ SqT K H p ys) ∧ ∀ l, H l = none → Q (.ref l) (upd H l (.lst ys))) (fList m) := by
  intro φ F H S xs vs Q W g r p
  unfold fList at p
  split at p
  · rename_i v
    obtain ⟨x, rfl, r1⟩ := reps1 r
    split at p
    · rename_i ds e
      obtain ⟨a, xs, rfl, h1, h2⟩ := ob_of g r1 e
      exact ⟨a, xs, rfl, .inl (.inl (.inl h1)), Post.newL g h2 p⟩
    · rename_i ds e
      obtain ⟨a, xs, rfl, h1, h2⟩ := ob_of g r1 e
      exact ⟨a, xs, rfl, .inr h1.sq, Post.newL g h2 p⟩
    · exact p.elim
  · exact p.elim
theorem ok_tuple : CallOk K mg (fun xs H Q => ∃ p ys, xs = [.ref p] ∧ ((SqL K H p ys ∧ ∀ l, H l = none → Q (.ref l) (upd H l (.tup ys))) ∨ (SqT K H p ys ∧ Q (.ref p) H))) fTuple := by
  intro φ F H S xs vs Q W g r p
  unfold fTuple at p
  split at p
  · rename_i v
    obtain ⟨x, rfl, r1⟩ := reps1 r
    split at p
    · rename_i ds e
      obtain ⟨a, xs, rfl, h1, h2⟩ := ob_of g r1 e
      exact ⟨a, xs, rfl, .inl ⟨.inl (.inl h1), Post.newT g h2 p⟩⟩
    · rename_i ds e
      obtain ⟨a, xs, rfl, h1, h2⟩ := ob_of g r1 e
      exact ⟨a, xs, rfl, .inr ⟨h1.sq, Post.ok g p (.tup h1 h2)⟩⟩
    · exact p.elim
  · exact p.elim
theorem ok_sorted {m : Bool} : CallOk K mg (rSeq K (fun ds => sortB ds = true ∧ ds.length ≤ sizeLine) fun ds xs H Q => ∀ ps : List (V × D), ps.Perm (xs.zip ds) → ps.map (·.2) = sortD ds → ∀ l, H l = none → Q (.ref l) (upd H l (.lst (ps.map (·.1))))) (fSorted m) := ok_seq fun {φ F H S xs ds Q W} g f p => by
  by_cases hl : (sortB ds && decide (ds.length ≤ sizeLine)) = true
  · simp only [hl, if_true] at p
    have h2 : sortB ds = true ∧ ds.length ≤ sizeLine := by simpa using hl
    refine ⟨h2, fun ps hp he l hl => ?_⟩
    have all : ∀ q ∈ ps, Fz K F H q.1 q.2 := fun q hq => by
      have hz := hp.mem_iff.mp hq
      obtain ⟨i, hi⟩ := List.mem_iff_getElem?.mp hz
      rw [List.getElem?_zip_eq_some] at hi
      obtain ⟨v, h3, h4⟩ := f.get hi.2
      rw [hi.1] at h3
      cases h3
      exact h4
    have fa : ∀ qs : List (V × D), (∀ q ∈ qs, Fz K F H q.1 q.2) → FzAll K F H (qs.map (·.1)) (qs.map (·.2)) := fun qs => by
      induction qs with
      | nil => intro _; exact .nil
      | cons q qs ih => intro h; exact .cons (h q List.mem_cons_self) (ih fun r hr => h r (List.mem_cons_of_mem _ hr))
    have fz := fa ps all
    rw [he] at fz
    exact Post.newL g fz p l hl
  · simp only [hl] at p; exact p.elim
end
section
variable {X : Cx}
theorem seq_reads {pins : List (Addr × Obj)} {σ : L2.St} {H : Hp} {s : Shared} {a : Addr} {xs : List V} {ds : List D} (I : Inv X pins σ H s) (hq : SqL X.K H a xs ∨ SqT X.K H a xs) (hd : DpAll X.K H xs ds) :
    ∃ (its : List Value) (as : List Addr), Vals xs its ∧ ReadsAll s.heap its ds as ∧ xs.length ≤ sizeLine ∧ ((SqL X.K H a xs ∧ s.heap.IsList a its.toArray) ∨ (SqT X.K H a xs ∧ s.heap.IsTuple a its.toArray)) := by
  rcases hq with hq | hq
  · obtain ⟨its, r, p, hz⟩ := I.list hq
    obtain ⟨as, h⟩ := Dp.readsAll I ds _ its hd r
    exact ⟨its, as, r, h, hz, .inl ⟨hq, p.isList⟩⟩
  · obtain ⟨its, r, p, hz⟩ := I.tuple hq
    obtain ⟨as, h⟩ := Dp.readsAll I ds _ its hd r
    exact ⟨its, as, r, h, hz, .inr ⟨hq, show s.heap.IsTuple a its.toArray from p⟩⟩
theorem all_fits {ds : List D} (h : ds.all fitsB = true) : ∀ x ∈ ds, x.fits63 := fun x hx => fitsB_p (List.all_eq_true.mp h x hx)
theorem call_allX (hc : X.calm = true) : CallR X (.builtin "all") (rSeq X.K (fun ds => ds.all fitsB = true) fun ds _ H Q => Q (.bl (ds.all PyData.truthy)) H) := by
  intro pins s σ H xs us Q I r h
  obtain ⟨a, ys, ds, rfl, hq, hd, hp, hdp, c, q⟩ := h
  obtain ⟨u, rfl, ru⟩ := vals1 r
  cases ru
  obtain ⟨its, as, rv, rd, _, h | h⟩ := seq_reads I hq hd
  · exact PySem.W.all_list_data (I.ok.hd hc) h.2 (by simpa using rd) hp (all_fits c) fun h' tk hk => ⟨.bl _, H, I.kept hk, rfl, q⟩
  · exact PySem.W.all_tuple_data (I.ok.hd hc) h.2 (by simpa using rd) hp (all_fits c) fun h' tk hk => ⟨.bl _, H, I.kept hk, rfl, q⟩
theorem call_anyX (hc : X.calm = true) : CallR X (.builtin "any") (rSeq X.K (fun ds => ds.all fitsB = true) fun ds _ H Q => Q (.bl (ds.any PyData.truthy)) H) := by
  intro pins s σ H xs us Q I r h
  obtain ⟨a, ys, ds, rfl, hq, hd, hp, hdp, c, q⟩ := h
  obtain ⟨u, rfl, ru⟩ := vals1 r
  cases ru
  obtain ⟨its, as, rv, rd, _, h | h⟩ := seq_reads I hq hd
  · exact PySem.W.any_list_data (I.ok.hd hc) h.2 (by simpa using rd) hp (all_fits c) fun h' tk hk => ⟨.bl _, H, I.kept hk, rfl, q⟩
  · exact PySem.W.any_tuple_data (I.ok.hd hc) h.2 (by simpa using rd) hp (all_fits c) fun h' tk hk => ⟨.bl _, H, I.kept hk, rfl, q⟩
theorem item_of {h h' : Heap} {its : List Value} {ys : List V} {ds : List D} {as bs : List Addr} {i : Nat} {v : Value} {d : D} (rv : Vals ys its) (rd : ReadsAll h its ds as) (hp : PyData.plainAll ds = true) (hi : its[i]? = some v) (k : ∀ b o, h.get? b = some o → h'.get? b = some o) (r : Reads h' v d bs) :
    ∃ y, ys[i]? = some y ∧ RelV y v ∧ ds[i]? = some d := by
  have hl : i < its.length := (List.getElem?_eq_some_iff.mp hi).1
  have hly : i < ys.length := by rw [rv.length]; exact hl
  obtain ⟨u, h1, h2⟩ := rv.get (List.getElem?_eq_getElem hly)
  rw [hi] at h1
  cases h1
  obtain ⟨cs, h3, h4, h5, _⟩ := PySem.W.readsAll_at rd i v hi
  refine ⟨ys[i], List.getElem?_eq_getElem hly, h2, ?_⟩
  have pl := PySem.W.plain_mem hp h5
  rw [← SeqAt.plain_unique _ d v cs bs pl (PySem.W.reads_keeps k h3) r, List.getD_eq_getElem?_getD, List.getElem?_eq_getElem h4]
  rfl
theorem call_min1X (hc : X.calm = true) (hu : X.A.units + 64 < cLine) : CallR X (.builtin "min") (rSeq X.K (fun ds => ds ≠ [] ∧ alikeOk ds = true) fun ds xs H Q => ∀ (x : D) (r : List D), ds = x :: r → ∀ (i : Nat) (v : V), (xs : List V)[i]? = some v → ds[i]? = some (PySem.W.minD x r) → Q v H) := by
  intro pins s σ H xs us Q I r h
  obtain ⟨a, ys, ds, rfl, hq, hd, hp, hdp, ⟨hne, hal⟩, q⟩ := h
  obtain ⟨u, rfl, ru⟩ := vals1 r
  cases ru
  cases ds with
  | nil => exact absurd rfl hne
  | cons x xs =>
    obtain ⟨its, as, rv, rd, _, h⟩ := seq_reads I hq hd
    have fin : ∀ (i : Nat) (v : Value) (h' : Heap) (tk : Nat) (bs : List Addr), its.toArray[i]? = some v → Reads h' v (PySem.W.minD x xs) bs → (∀ b o, s.heap.get? b = some o → h'.get? b = some o) → EP X pins σ Q v { s with heap := h', toks := tk } := fun i v h' tk bs hi hr hk => by
      obtain ⟨y, h1, h2, h3⟩ := item_of rv rd hp (by simpa using hi) hk hr
      exact ⟨y, H, I.kept hk, h2, q x xs rfl i y h1 h3⟩
    rcases h with h | h
    · exact PySem.W.min_list_data (I.ok.hd hc) h.2 (by simpa using rd) (alikeOk_p hal) (by omega) fin
    · exact PySem.W.min_tuple_data (I.ok.hd hc) h.2 (by simpa using rd) (alikeOk_p hal) (by omega) fin
theorem call_max1X (hc : X.calm = true) (hu : X.A.units + 64 < cLine) : CallR X (.builtin "max") (rSeq X.K (fun ds => ds ≠ [] ∧ alikeOk ds = true) fun ds xs H Q => ∀ (x : D) (r : List D), ds = x :: r → ∀ (i : Nat) (v : V), (xs : List V)[i]? = some v → ds[i]? = some (PySem.W.maxD x r) → Q v H) := by
  intro pins s σ H xs us Q I r h
  obtain ⟨a, ys, ds, rfl, hq, hd, hp, hdp, ⟨hne, hal⟩, q⟩ := h
  obtain ⟨u, rfl, ru⟩ := vals1 r
  cases ru
  cases ds with
  | nil => exact absurd rfl hne
  | cons x xs =>
    obtain ⟨its, as, rv, rd, _, h⟩ := seq_reads I hq hd
    have fin : ∀ (i : Nat) (v : Value) (h' : Heap) (tk : Nat) (bs : List Addr), its.toArray[i]? = some v → Reads h' v (PySem.W.maxD x xs) bs → (∀ b o, s.heap.get? b = some o → h'.get? b = some o) → EP X pins σ Q v { s with heap := h', toks := tk } := fun i v h' tk bs hi hr hk => by
      obtain ⟨y, h1, h2, h3⟩ := item_of rv rd hp (by simpa using hi) hk hr
      exact ⟨y, H, I.kept hk, h2, q x xs rfl i y h1 h3⟩
    rcases h with h | h
    · exact PySem.W.max_list_data (I.ok.hd hc) h.2 (by simpa using rd) (alikeOk_p hal) (by omega) fin
    · exact PySem.W.max_tuple_data (I.ok.hd hc) h.2 (by simpa using rd) (alikeOk_p hal) (by omega) fin
end
def Res.st {α : Type} (r : Res α) (ρ : Env) (k : α → Store → SRes) : SRes := match r with
  | .ok a S => k a S
  | .ex e S => .ex e ρ S
  | .bad => .bad
@[simp] theorem st_ok {α : Type} (a : α) (S : Store) (ρ : Env) (k : α → Store → SRes) : (Res.ok a S).st ρ k = k a S := rfl
@[simp] theorem st_ex {α : Type} (e : Xn) (S : Store) (ρ : Env) (k : α → Store → SRes) : (Res.ex e S : Res α).st ρ k = .ex e ρ S := rfl
@[simp] theorem st_bad {α : Type} (ρ : Env) (k : α → Store → SRes) : (Res.bad : Res α).st ρ k = .bad := rfl
def SRes.seq (r : SRes) (k : Sv) : SRes := match r with
  | .nx ρ S => k ρ S
  | r => r
@[simp] theorem seq_nx (ρ : Env) (S : Store) (k : Sv) : (SRes.nx ρ S).seq k = k ρ S := rfl
@[simp] theorem seq_ret (v : Vl) (S : Store) (k : Sv) : (SRes.ret v S).seq k = .ret v S := rfl
@[simp] theorem seq_bk (ρ : Env) (S : Store) (k : Sv) : (SRes.bk ρ S).seq k = .bk ρ S := rfl
@[simp] theorem seq_ct (ρ : Env) (S : Store) (k : Sv) : (SRes.ct ρ S).seq k = .ct ρ S := rfl
@[simp] theorem seq_ex (e : Xn) (ρ : Env) (S : Store) (k : Sv) : (SRes.ex e ρ S).seq k = .ex e ρ S := rfl
@[simp] theorem seq_bad (k : Sv) : SRes.bad.seq k = .bad := rfl
abbrev Tg := Vl → Env → Option Env
def gN (i : Nat) : Tg := fun v ρ => some (ρ.set i (some v))
def gAll : List Tg → List Vl → Env → Option Env
  | [], [], ρ => some ρ
  | g :: gs, v :: vs, ρ => match g v ρ with
    | some ρ1 => gAll gs vs ρ1
    | none => none
  | _, _, _ => none
def gT (gs : List Tg) : Tg := fun v ρ => match v with
  | .d (.tuple ds) => gAll gs (ds.map Vl.d) ρ
  | _ => none
def sNil : Sv := fun ρ S => .nx ρ S
def sCons (a b : Sv) : Sv := fun ρ S => (a ρ S).seq b
def sExpr (f : Ev) : Sv := fun ρ S => (f ρ S).st ρ fun _ S1 => .nx ρ S1
def sAsg (g : Tg) (f : Ev) : Sv := fun ρ S => (f ρ S).st ρ fun v S1 => match g v ρ with
  | some ρ1 => .nx ρ1 S1
  | none => .bad
def sSet (i : Nat) (f : Ev) : Sv := fun ρ S => (f ρ S).st ρ fun v S1 => .nx (ρ.set i (some v)) S1
def sPar (gs : List Tg) (f : Av) : Sv := fun ρ S => (f ρ S).st ρ fun vs S1 => match gAll gs vs ρ with
  | some ρ1 => .nx ρ1 S1
  | none => .bad
def sRet (f : Ev) : Sv := fun ρ S => (f ρ S).st ρ fun v S1 => .ret v S1
def sRetN : Sv := fun _ S => .ret (.d .none) S
def sIf (c : Tv) (a b : Sv) : Sv := fun ρ S => (c ρ S).st ρ fun x S1 => if x = true then a ρ S1 else b ρ S1
def sAug (i : Nat) (o : Vl → Vl → Store → Res Vl) (f : Ev) : Sv := fun ρ S => match ρ[i]? with
  | some (some x) => (f ρ S).st ρ fun y S1 => (o x y S1).st ρ fun z S2 => .nx (ρ.set i (some z)) S2
  | _ => .bad
def sPut (fo fi fe : Ev) : Sv := fun ρ S => (fe ρ S).st ρ fun v S1 => (fr v S1).st ρ fun d S2 => (fo ρ S2).st ρ fun o S3 => (fi ρ S3).st ρ fun i S4 => match o, view S4 i with
  | .loc n, some (.int k) => match S4[n]? with
    | some (.lst xs) => match ixN xs.length k with
      | some j => .nx ρ (S4.set n (.lst (xs.set j d)))
      | none => .bad
    | _ => .bad
  | _, _ => .bad
def sBreak : Sv := fun ρ S => .bk ρ S
def sCont : Sv := fun ρ S => .ct ρ S
abbrev Iv := Env → Store → Res (List D)
def forL (g : Tg) (b : Sv) : List D → Env → Store → SRes
  | [], ρ, S => .nx ρ S
  | x :: xs, ρ, S => match g (.d x) ρ with
    | none => .bad
    | some ρ1 => match b ρ1 S with
      | .nx ρ2 S2 => forL g b xs ρ2 S2
      | .ct ρ2 S2 => forL g b xs ρ2 S2
      | .bk ρ2 S2 => .nx ρ2 S2
      | r => r
def sFor (it : Iv) (g : Tg) (b : Sv) : Sv := fun ρ S => (it ρ S).st ρ fun xs S1 => forL g b xs ρ S1
def whN (c : Tv) (b : Sv) : Nat → Env → Store → Option SRes
  | 0, _, _ => none
  | n + 1, ρ, S => match c ρ S with
    | .ok true S1 => match b ρ S1 with
      | .nx ρ2 S2 => whN c b n ρ2 S2
      | .ct ρ2 S2 => whN c b n ρ2 S2
      | .bk ρ2 S2 => some (.nx ρ2 S2)
      | r => some r
    | .ok false S1 => some (.nx ρ S1)
    | .ex e S1 => some (.ex e ρ S1)
    | .bad => some .bad
open Classical in
noncomputable def sWhile (c : Tv) (b : Sv) : Sv := fun ρ S => if h : ∃ n r, whN c b n ρ S = some r then Classical.choose (Classical.choose_spec h) else .bad
theorem whN_mono {c : Tv} {b : Sv} : ∀ {n m : Nat} {ρ : Env} {S : Store} {r : SRes}, whN c b n ρ S = some r → n ≤ m → whN c b m ρ S = some r
  | 0, _, _, _, _, h, _ => by simp [whN] at h
  | n + 1, 0, _, _, _, _, h => by omega
  | n + 1, m + 1, ρ, S, r, h, hm => by
    have hm : n ≤ m := by omega
    unfold whN at h ⊢
    cases e : c ρ S with
    | ok t S1 =>
      simp only [e] at h ⊢
      cases t with
      | false => exact h
      | true =>
        cases e2 : b ρ S1 with
        | nx ρ2 S2 => simp only [e2] at h ⊢; exact whN_mono h hm
        | ct ρ2 S2 => simp only [e2] at h ⊢; exact whN_mono h hm
        | bk ρ2 S2 => simp only [e2] at h ⊢; exact h
        | ret v S2 => simp only [e2] at h ⊢; exact h
        | ex v ρ2 S2 => simp only [e2] at h ⊢; exact h
        | bad => simp only [e2] at h ⊢; exact h
    | ex x S1 => simp only [e] at h ⊢; exact h
    | bad => simp only [e] at h ⊢; exact h
theorem sWhile_of {c : Tv} {b : Sv} {n : Nat} {ρ : Env} {S : Store} {r : SRes} (h : whN c b n ρ S = some r) : sWhile c b ρ S = r := by
  have ex : ∃ n r, whN c b n ρ S = some r := ⟨n, r, h⟩
  unfold sWhile
  rw [dif_pos ex]
  have q := Classical.choose_spec (Classical.choose_spec ex)
  have a := whN_mono q (Nat.le_max_left (Classical.choose ex) n)
  have b := whN_mono h (Nat.le_max_right (Classical.choose ex) n)
  rw [a] at b
  exact Option.some.inj b
theorem sWhile_ex {c : Tv} {b : Sv} {ρ : Env} {S : Store} (h : sWhile c b ρ S ≠ .bad) : ∃ n, whN c b n ρ S = some (sWhile c b ρ S) := by
  by_cases ex : ∃ n r, whN c b n ρ S = some r
  · obtain ⟨n, r, e⟩ := ex
    exact ⟨n, by rw [sWhile_of e]; exact e⟩
  · exact absurd (by unfold sWhile; rw [dif_neg ex]) h
theorem sWhile_eq (c : Tv) (b : Sv) (ρ : Env) (S : Store) : sWhile c b ρ S = match c ρ S with
    | .ok true S1 => match b ρ S1 with
      | .nx ρ2 S2 => sWhile c b ρ2 S2
      | .ct ρ2 S2 => sWhile c b ρ2 S2
      | .bk ρ2 S2 => .nx ρ2 S2
      | r => r
    | .ok false S1 => .nx ρ S1
    | .ex e S1 => .ex e ρ S1
    | .bad => .bad := by
  cases e : c ρ S with
  | ok t S1 =>
    cases t with
    | false => exact sWhile_of (n := 1) (by simp [whN, e])
    | true =>
      cases e2 : b ρ S1 with
      | nx ρ2 S2 =>
        simp only [e2]
        by_cases ex : ∃ n r, whN c b n ρ2 S2 = some r
        · obtain ⟨n, r, h⟩ := ex
          rw [sWhile_of h]
          exact sWhile_of (n := n + 1) (by simp only [whN, e, e2]; exact h)
        · have n1 : sWhile c b ρ2 S2 = .bad := by unfold sWhile; rw [dif_neg ex]
          rw [n1]
          have : ¬ ∃ n r, whN c b n ρ S = some r := fun ⟨n, r, h⟩ => by
            cases n with
            | zero => simp [whN] at h
            | succ n => simp only [whN, e, e2] at h; exact ex ⟨n, r, h⟩
          unfold sWhile
          rw [dif_neg this]
      | ct ρ2 S2 =>
        simp only [e2]
        by_cases ex : ∃ n r, whN c b n ρ2 S2 = some r
        · obtain ⟨n, r, h⟩ := ex
          rw [sWhile_of h]
          exact sWhile_of (n := n + 1) (by simp only [whN, e, e2]; exact h)
        · have n1 : sWhile c b ρ2 S2 = .bad := by unfold sWhile; rw [dif_neg ex]
          rw [n1]
          have : ¬ ∃ n r, whN c b n ρ S = some r := fun ⟨n, r, h⟩ => by
            cases n with
            | zero => simp [whN] at h
            | succ n => simp only [whN, e, e2] at h; exact ex ⟨n, r, h⟩
          unfold sWhile
          rw [dif_neg this]
      | bk ρ2 S2 => exact sWhile_of (n := 1) (by simp [whN, e, e2])
      | ret v S2 => exact sWhile_of (n := 1) (by simp [whN, e, e2])
      | ex v ρ2 S2 => exact sWhile_of (n := 1) (by simp [whN, e, e2])
      | bad => exact sWhile_of (n := 1) (by simp [whN, e, e2])
  | ex x S1 => exact sWhile_of (n := 1) (by simp [whN, e])
  | bad => exact sWhile_of (n := 1) (by simp [whN, e])
def leave (n : Nat) (v : Vl) (S : Store) : Res Vl := match v with
  | .loc i => if i < n then .ok (.loc i) (S.take n) else match S[i]? with
    | some o => .ok (.loc n) (S.take n ++ [o])
    | none => .bad
  | v => .ok v (S.take n)
def fnOf (slots : Nat) (b : Sv) : Fn := fun vs S => match b (vs.map some ++ List.replicate (slots - vs.length) none) S with
  | .ret v S1 => leave S.length v S1
  | .nx _ S1 => .ok (.d .none) (S1.take S.length)
  | .ex e _ S1 => .ex e (S1.take S.length)
  | _ => .bad
section
variable {K : PySem.W.Frag} {mg : Str → Option Value} {φ φ' φ1 φ2 : Nat → Addr} {F F' F1 F2 : Addr → Prop} {H H' H1 H2 : Hp} {n n' m : Nat} {S S' S1 : Store}
theorem PostS.st {α β : Type} {R : (Nat → Addr) → (Addr → Prop) → Hp → Nat → β → α → Prop} {W : WX} {E : Ends} {r : Res α} {ρ : Env} {σ : L2.St} {k : α → Store → SRes} {Q : β → Hp → Prop} (g : SG K φ F H S) (sl : Slots K mg φ F H S.length σ ρ) (p : PostS K mg W S.length φ F H E (r.st ρ k))
    (h : ∀ φ1 F1 H1 S1 v x, Now K S.length φ F H φ1 F1 H1 S1 → R φ1 F1 H1 S1.length x v → PostS K mg W S1.length φ1 F1 H1 E (k v S1) → Q x H1) : PostG K mg R (fun c od H' => W c od σ H') S.length φ F H Q r := by
  cases r with
  | ok v S' => exact fun φ' F' H' nw x rx => h _ _ _ _ _ _ nw rx (PostS.start g nw p)
  | ex x S' => exact fun φ' F' H' nw c od rx => p φ' F' H' nw c od rx σ (sl.now nw)
  | bad => exact p
theorem PostS.seq {W : WX} {E : Ends} {r : SRes} {k : Sv} (g : SG K φ F H S) (p : PostS K mg W S.length φ F H E (r.seq k)) : PostS K mg W S.length φ F H { E with nx := RS K mg W k E } r := by
  cases r with
  | nx ρ S' => exact fun φ' F' H' nw σ' sl => ⟨φ', F', ρ, S', nw.sg, sl, PostS.start g nw p⟩
  | ret v S' => exact p
  | bk ρ S' => exact p
  | ct ρ S' => exact p
  | ex e ρ S' => exact p
  | bad => exact p
theorem PostS.nx {W : WX} {E : Ends} {ρ : Env} {σ : L2.St} (g : SG K φ F H S) (sl : Slots K mg φ F H S.length σ ρ) (p : PostS K mg W S.length φ F H E (.nx ρ S)) : E.nx σ H := p φ F H (.refl g) σ sl
theorem PostS.ends {W : WX} {E E' : Ends} {r : SRes} (p : PostS K mg W n φ F H E r) (h1 : ∀ σ H, E.nx σ H → E'.nx σ H) (h2 : ∀ v H, E.rt v H → E'.rt v H) (h3 : ∀ σ H, E.bk σ H → E'.bk σ H) (h4 : ∀ σ H, E.ct σ H → E'.ct σ H) : PostS K mg W n φ F H E' r := by
  cases r with
  | nx ρ S' => exact fun φ' F' H' nw σ' sl => h1 _ _ (p φ' F' H' nw σ' sl)
  | ret v S' => exact fun φ' F' H' nw σ' sl => h2 _ _ (p φ' F' H' nw σ' sl)
  | bk ρ S' => exact fun φ' F' H' nw σ' sl => h3 _ _ (p φ' F' H' nw σ' sl)
  | ct ρ S' => exact fun φ' F' H' nw σ' sl => h4 _ _ (p φ' F' H' nw σ' sl)
  | ex e ρ S' => exact p
  | bad => exact p
end
def Kept (ws : List Nat) (σ σ1 : L2.St) : Prop := σ1.length = σ.length ∧ ∀ i, i ∉ ws → σ1[i]? = σ[i]?
def RG (K : PySem.W.Frag) (mg : Str → Option Value) (g : Tg) (ws : List Nat) : TG := fun v σ H Q => ∃ φ F ρ S x, SG K φ F H S ∧ Slots K mg φ F H S.length σ ρ ∧ RepV K mg φ F H S.length v x ∧ match g x ρ with
  | some ρ1 => ∀ σ1 : L2.St, Slots K mg φ F H S.length σ1 ρ1 → Kept ws σ σ1 → Q σ1 H
  | none => False
def RGs (K : PySem.W.Frag) (mg : Str → Option Value) (gs : List Tg) (ws : List Nat) : TGs := fun vs σ H Q => ∃ φ F ρ S xs, SG K φ F H S ∧ Slots K mg φ F H S.length σ ρ ∧ RepVs K mg φ F H S.length vs xs ∧ match gAll gs xs ρ with
  | some ρ1 => ∀ σ1 : L2.St, Slots K mg φ F H S.length σ1 ρ1 → Kept ws σ σ1 → Q σ1 H
  | none => False
structure DG (X : Cx) (tg : Expr) (g : Tg) (ws : List Nat) : Prop where
  r : PG X tg (RG X.K X.mg g ws)
structure DGs (X : Cx) (tgs : List Expr) (gs : List Tg) (ws : List Nat) : Prop where
  r : PGs X tgs (RGs X.K X.mg gs ws)
theorem PG.mono {X : Cx} {e : Expr} {t t' : TG} (h : PG X e t) (m : ∀ v σ H Q, t' v σ H Q → t v σ H Q) : PG X e t' := ⟨fun pins s σ H v u Q I r q => h.run pins s σ H v u Q I r (m _ _ _ _ q)⟩
theorem PGs.mono {X : Cx} {e : List Expr} {t t' : TGs} (h : PGs X e t) (m : ∀ v σ H Q, t' v σ H Q → t v σ H Q) : PGs X e t' := ⟨fun pins s σ H v u Q I r q => h.run pins s σ H v u Q I r (m _ _ _ _ q)⟩
section
variable {X : Cx} {W : WX} {k : Nat} {a b c e tg : Expr} {es rest tgs : List Expr} {fa fb fc f : Ev} {ga gb : Tv} {fs : Av} {pos pos' : Pos} {st : Stmt} {sts body els : List Stmt} {sf sg : Sv} {g : Tg} {gs : List Tg} {ws vs' : List Nat}
theorem dg_name (i : Nat) {x : Str} (hN : X.N.Nodup) (hi : X.N[i]? = some x) (hx : Loc X.env.scope x) (hf : X.fn x = true ∨ X.env.scope.names.lookup x = some .local := by first | exact .inl rfl | exact .inr rfl | assumption) : DG X (.Name x pos) (gN i) [i] :=
  ⟨PG.mono (pg_name hN hi hx hf) fun v σ H Q ⟨φ, F, ρ, S, y, g, sl, r, p⟩ => p _ (sl.set r) ⟨List.length_set, fun j hj => List.getElem?_set_ne fun e => hj (by simp [e])⟩⟩
theorem dgs_nil : DGs X [] [] [] := ⟨PGs.mono pgs_nil fun vs σ H Q ⟨φ, F, ρ, S, ys, g, sl, r, p⟩ => by
  cases ys with
  | cons y ys => exact p.elim
  | nil =>
    cases vs with
    | cons v vs => exact r.elim
    | nil => exact ⟨rfl, p _ sl ⟨rfl, fun _ _ => rfl⟩⟩⟩
theorem dgs_cons (h1 : DG X tg g ws) (h2 : DGs X tgs gs vs') (hs : (assignEach (tg :: tgs) X.env).map (·.2) = assign tg X.env :: (assignEach tgs X.env).map (·.2) := by rfl) : DGs X (tg :: tgs) (g :: gs) (ws ++ vs') := ⟨PGs.mono (pgs_cons h1.r h2.r hs) fun vs σ H Q ⟨φ, F, ρ, S, ys, sg, sl, r, p⟩ => by
  cases ys with
  | nil => exact p.elim
  | cons y ys =>
    cases vs with
    | nil => exact r.elim
    | cons v vs =>
      refine ⟨v, vs, rfl, φ, F, ρ, S, y, sg, sl, r.1, ?_⟩
      unfold gAll at p
      cases q : g y ρ with
      | none => rw [q] at p; exact p.elim
      | some ρ1 =>
        simp only [q] at p
        refine fun σ1 sl1 n1 => ⟨φ, F, ρ1, S, ys, sg, sl1, r.2, ?_⟩
        cases q2 : gAll gs ys ρ1 with
        | none => rw [q2] at p; exact p.elim
        | some ρ2 =>
          simp only [q2] at p ⊢
          exact fun σ2 sl2 n2 => p σ2 sl2 ⟨n2.1.trans n1.1, fun i hi => (n2.2 i fun h => hi (List.mem_append_right _ h)).trans (n1.2 i fun h => hi (List.mem_append_left _ h))⟩⟩
theorem reps_d {K : PySem.W.Frag} {mg : Str → Option Value} {φ : Nat → Addr} {F : Addr → Prop} {H : Hp} {n : Nat} : ∀ {xs : List V} {ds : List D}, FzAll K F H xs ds → RepVs K mg φ F H n xs (ds.map Vl.d)
  | _, _, .nil => trivial
  | _, _, .cons h t => ⟨h, reps_d t⟩
theorem dg_tup {kk : Nat} {n : Nat} (hc : X.calm = true) (h : DGs X tgs gs ws) (hn : (assignEach tgs X.env).length = n := by rfl) (hst : (assignEach tgs X.env).findIdx? (·.1) = none := by rfl) (hl : gs.length = n := by rfl) : DG X (.Tuple tgs kk pos) (gT gs) ws := ⟨PG.mono (pg_tup hc h.r hn hst) fun v σ H Q ⟨φ, F, ρ, S, y, sg, sl, r, p⟩ => by
  cases y with
  | d y =>
    cases y with
    | tuple ds =>
      · obtain ⟨a, xs, rfl, h1, h2⟩ := Fz.ob r
        refine ⟨a, xs, rfl, h1.sq, ?_, φ, F, ρ, S, _, sg, sl, reps_d h2, p⟩
        have q : ∀ (gs : List Tg) (vs : List Vl) (ρ : Env), (∃ ρ1, gAll gs vs ρ = some ρ1) → vs.length = gs.length := fun gs => by
          induction gs with
          | nil => intro vs ρ h; cases vs with
            | nil => rfl
            | cons v vs => obtain ⟨_, e⟩ := h; cases e
          | cons g gs ih => intro vs ρ h; cases vs with
            | nil => obtain ⟨_, e⟩ := h; cases e
            | cons v vs =>
              obtain ⟨ρ1, e⟩ := h
              unfold gAll at e
              cases q : g v ρ with
              | none => rw [q] at e; cases e
              | some ρ2 => simp only [q] at e; rw [List.length_cons, List.length_cons, ih vs ρ2 ⟨ρ1, e⟩]
        cases q2 : gAll gs (ds.map Vl.d) ρ with
        | none => simp only [gT, q2] at p
        | some ρ1 =>
          have := q gs _ ρ ⟨ρ1, q2⟩
          rw [List.length_map] at this
          rw [h2.len, this, hl]
    | _ => exact p.elim
  | _ => exact p.elim⟩
theorem db_nil : DB X W [] sNil := ⟨PSs.mono pss_nil fun E σ H ⟨φ, F, ρ, S, g, sl, p⟩ => PostS.nx g sl p⟩
theorem db_cons (h1 : DS X W st sf) (h2 : DB X W sts sg) : DB X W (st :: sts) (sCons sf sg) := ⟨PSs.mono (pss_cons h1.r h2.r) fun E σ H ⟨φ, F, ρ, S, g, sl, p⟩ => ⟨φ, F, ρ, S, g, sl, PostS.seq g p⟩⟩
theorem db_one (h1 : DS X W st sf) : DB X W [st] sf := ⟨PSs.mono (pss_one h1.r) fun _ _ _ q => q⟩
theorem ds_pass : DS X W (.Pass pos) sNil := ⟨PS.mono ps_pass fun E σ H ⟨φ, F, ρ, S, g, sl, p⟩ => PostS.nx g sl p⟩
theorem ds_break : DS X W (.Break pos) sBreak := ⟨PS.mono ps_break fun E σ H ⟨φ, F, ρ, S, g, sl, p⟩ => p φ F H (.refl g) σ sl⟩
theorem ds_cont : DS X W (.Continue pos) sCont := ⟨PS.mono ps_continue fun E σ H ⟨φ, F, ρ, S, g, sl, p⟩ => p φ F H (.refl g) σ sl⟩
theorem ds_expr (h : DE X W e f) (hs : swapsWith e none pos.line X.env = pure false := by rfl) : DS X W (.Expr e pos) (sExpr f) := ⟨PS.mono (ps_expr h.r hs) fun E σ H ⟨φ, F, ρ, S, g, sl, p⟩ => ⟨φ, F, ρ, S, g, sl, PostS.st g sl p fun φ1 F1 H1 S1 v x nw1 r1 p1 => PostS.nx nw1.sg (sl.now nw1) p1⟩⟩
theorem ds_ret (h : DE X W e f) : DS X W (.Return (some e) pos) (sRet f) := ⟨PS.mono (ps_ret h.r) fun E σ H ⟨φ, F, ρ, S, g, sl, p⟩ => ⟨φ, F, ρ, S, g, sl, PostS.st g sl p fun φ1 F1 H1 S1 v x nw1 r1 p1 => p1 _ _ _ (.refl nw1.sg) x r1⟩⟩
theorem ds_retN : DS X W (.Return none pos) sRetN := ⟨PS.mono ps_retN fun E σ H ⟨φ, F, ρ, S, g, sl, p⟩ => p _ _ _ (.refl g) .non .non⟩
theorem ds_set (i : Nat) {x : Str} (hN : X.N.Nodup) (hi : X.N[i]? = some x) (hx : Loc X.env.scope x) (h : DE X W e f) (hs : swapsWith e (some (.Name x pos')) pos.line X.env = pure false := by rfl) (hf : X.fn x = true ∨ X.env.scope.names.lookup x = some .local := by first | exact .inl rfl | exact .inr rfl | assumption) : DS X W (.Assign [.Name x pos'] e pos) (sSet i f) :=
  ⟨PS.mono (ps_set hN hi hx h.r hs hf) fun E σ H ⟨φ, F, ρ, S, g, sl, p⟩ => ⟨φ, F, ρ, S, g, sl, PostS.st g sl p fun φ1 F1 H1 S1 v x nw1 r1 p1 => PostS.nx nw1.sg ((sl.now nw1).set r1) p1⟩⟩
theorem ds_asg (h : DE X W e f) (hg : DG X tg g ws) (hs : swapsWithSole [tg] e pos.line X.env = pure false := by rfl) (hw : swappedStores [tg] e X.env = pure none := by rfl) (h1 : (assignEach [tg] X.env).map (·.2) = [assign tg X.env] := by rfl) : DS X W (.Assign [tg] e pos) (sAsg g f) :=
  ⟨PS.mono (ps_asg h.r hg.r hs hw h1) fun E σ H ⟨φ, F, ρ, S, gg, sl, p⟩ => ⟨φ, F, ρ, S, gg, sl, PostS.st gg sl p fun φ1 F1 H1 S1 v x nw1 r1 p1 => ⟨φ1, F1, ρ, S1, v, nw1.sg, sl.now nw1, r1, by
    cases q : g v ρ with
    | none => rw [q] at p1; exact p1.elim
    | some ρ1 =>
      simp only [q] at p1 ⊢
      exact fun σ1 sl1 _ => PostS.nx nw1.sg sl1 p1⟩⟩⟩
theorem ds_parT {n kk k2 : Nat} {pos2 pos3 : Pos} (hc : X.calm = true) (h : DA X W es fs) (hg : DGs X tgs gs ws) (hn : (assignEach tgs X.env).length = n := by rfl) (hst : (assignEach tgs X.env).findIdx? (·.1) = none := by rfl) (hl : gs.length = n := by rfl) (hln : n ≤ 1000 := by decide)
    (hs : swapsWithSole [.Tuple tgs kk pos'] (.Tuple es k2 pos2) pos.line X.env = pure false := by rfl) (hw : swappedStores [.Tuple tgs kk pos'] (.Tuple es k2 pos2) X.env = pure none := by rfl) (h1 : (assignEach [.Tuple tgs kk pos'] X.env).map (·.2) = [assign (.Tuple tgs kk pos') X.env] := by rfl) :
    DS X W (.Assign [.Tuple tgs kk pos'] (.Tuple es k2 pos2) pos) (sPar gs fs) := ⟨PS.mono (ps_asg (pe_tup h.r) (pg_tup hc hg.r hn hst) hs hw h1) fun E σ H ⟨φ, F, ρ, S, g, sl, p⟩ => ⟨φ, F, ρ, S, g, sl, PostS.st g sl p fun φ1 F1 H1 S1 vs xs nw1 r1 p1 => by
  have q : ∀ (gs : List Tg) (vs : List Vl) (ρ : Env), (∃ ρ1, gAll gs vs ρ = some ρ1) → vs.length = gs.length := fun gs => by
    induction gs with
    | nil => intro vs ρ h; cases vs with
      | nil => rfl
      | cons v vs => obtain ⟨_, e⟩ := h; cases e
    | cons g gs ih => intro vs ρ h; cases vs with
      | nil => obtain ⟨_, e⟩ := h; cases e
      | cons v vs =>
        obtain ⟨ρ1, e⟩ := h
        unfold gAll at e
        cases q : g v ρ with
        | none => rw [q] at e; cases e
        | some ρ2 => simp only [q] at e; rw [List.length_cons, List.length_cons, ih vs ρ2 ⟨ρ1, e⟩]
  cases q2 : gAll gs vs ρ with
  | none => rw [q2] at p1; exact p1.elim
  | some ρ1 =>
    simp only [q2] at p1
    have lv := q gs vs ρ ⟨ρ1, q2⟩
    have lx : xs.length = n := by rw [r1.len, lv, hl]
    refine ⟨by rw [lx]; exact line1000 hln, fun t ht => ?_⟩
    have nw2 := nw1.sg.fresh (o := .tup xs) ht
    refine ⟨t, xs, rfl, .inl (.inl upd_same), lx, φ1, _, ρ, S1, vs, nw2.sg, (sl.now nw1).now nw2, RepVs.ext nw2.ext nw2.le r1, ?_⟩
    simp only [q2]
    exact fun σ1 sl1 _ => PostS.nx nw2.sg sl1 (PostS.start nw1.sg nw2 p1)⟩⟩
theorem ds_par2 (i j : Nat) {x y : Str} {px py pt pos2 : Pos} {kt k2 : Nat} (hc : X.calm = true) (hN : X.N.Nodup) (hi : X.N[i]? = some x) (hj : X.N[j]? = some y) (hij : i ≠ j) (hx : X.env.scope.names.lookup x = some .local) (hy : X.env.scope.names.lookup y = some .local) (ha : DA X W [a, b] fs)
    (hw : swappedStores [.Tuple [.Name x px, .Name y py] kt pt] (.Tuple [a, b] k2 pos2) X.env = pure (some [x, y]) := by rfl) (hs : swapsWithSole [.Tuple [.Name x px, .Name y py] kt pt] (.Tuple [a, b] k2 pos2) pos.line X.env = pure false := by rfl) :
    DS X W (.Assign [.Tuple [.Name x px, .Name y py] kt pt] (.Tuple [a, b] k2 pos2) pos) (sPar [gN i, gN j] fs) := ⟨PS.mono (ps_par hc hN hi hj hij hx hy ha.r hw hs) fun E σ H ⟨φ, F, ρ, S, g, sl, p⟩ => ⟨φ, F, ρ, S, g, sl, PostS.st g sl p fun φ1 F1 H1 S1 vs xs nw1 r1 p1 => by
  cases vs with
  | nil => exact p1.elim
  | cons v vs =>
    cases vs with
    | nil => exact p1.elim
    | cons u vs =>
      cases vs with
      | cons _ _ => exact p1.elim
      | nil =>
        obtain ⟨x1, x2, rfl, q1, q2⟩ := reps2 r1
        exact ⟨x1, x2, rfl, PostS.nx nw1.sg (((sl.now nw1).set q1).set q2) p1⟩⟩⟩
theorem ds_par3 (i j l : Nat) {x y z : Str} {px py pz pt pos2 : Pos} {kt k2 : Nat} (hc : X.calm = true) (hN : X.N.Nodup) (hi : X.N[i]? = some x) (hj : X.N[j]? = some y) (hl : X.N[l]? = some z) (hij : i ≠ j) (hil : i ≠ l) (hjl : j ≠ l) (hx : X.env.scope.names.lookup x = some .local) (hy : X.env.scope.names.lookup y = some .local)
    (hz : X.env.scope.names.lookup z = some .local) (ha : DA X W [a, b, c] fs) (hw : swappedStores [.Tuple [.Name x px, .Name y py, .Name z pz] kt pt] (.Tuple [a, b, c] k2 pos2) X.env = pure (some [x, y, z]) := by rfl)
    (hs : swapsWithSole [.Tuple [.Name x px, .Name y py, .Name z pz] kt pt] (.Tuple [a, b, c] k2 pos2) pos.line X.env = pure false := by rfl) :
    DS X W (.Assign [.Tuple [.Name x px, .Name y py, .Name z pz] kt pt] (.Tuple [a, b, c] k2 pos2) pos) (sPar [gN i, gN j, gN l] fs) := ⟨PS.mono (ps_par3 hc hN hi hj hl hij hil hjl hx hy hz ha.r hw hs) fun E σ H ⟨φ, F, ρ, S, g, sl, p⟩ => ⟨φ, F, ρ, S, g, sl, PostS.st g sl p fun φ1 F1 H1 S1 vs xs nw1 r1 p1 => by
  cases vs with
  | nil => exact p1.elim
  | cons v vs =>
    cases vs with
    | nil => exact p1.elim
    | cons u vs =>
      cases vs with
      | nil => exact p1.elim
      | cons t vs =>
        cases vs with
        | cons _ _ => exact p1.elim
        | nil =>
          cases xs with
          | nil => exact r1.elim
          | cons x0 xs =>
            obtain ⟨x1, x2, rfl, q1, q2⟩ := reps2 r1.2
            exact ⟨x0, x1, x2, rfl, PostS.nx nw1.sg ((((sl.now nw1).set r1.1).set q1).set q2) p1⟩⟩⟩
theorem ds_if (hc : DT X W c ga) (ha : DB X W body sf) (hb : DB X W els sg) : DS X W (.If c body els pos) (sIf ga sf sg) := ⟨PS.mono (ps_if hc.r ha.r hb.r) fun E σ H ⟨φ, F, ρ, S, g, sl, p⟩ => ⟨φ, F, ρ, S, g, sl, PostS.st (R := RepB) g sl p fun φ1 F1 H1 S1 v x nw1 r1 p1 => by
  have r1 : x = v := r1
  subst r1
  cases x with
  | true => exact ⟨φ1, F1, ρ, S1, nw1.sg, sl.now nw1, p1⟩
  | false => exact ⟨φ1, F1, ρ, S1, nw1.sg, sl.now nw1, p1⟩⟩⟩
theorem ds_aug (i : Nat) {x : Str} {op : Operator} {o : Vl → Vl → Store → Res Vl} {r : R2} (hN : X.N.Nodup) (hi : X.N[i]? = some x) (hx : Loc X.env.scope x) (h : DE X W e f) (ho : OpR X (inplaceOp op) r) (ok : OpOk X.K X.mg r o) (hf : X.fn x = true ∨ X.env.scope.names.lookup x = some .local := by first | exact .inl rfl | exact .inr rfl | assumption) :
    DS X W (.AugAssign (.Name x pos') op e pos) (sAug i o f) := ⟨PS.mono (ps_aug (ti := r) hN hi hx h.r (fun pins s σ H x y v u Q I rx ry q => ho pins s σ H x y v u Q I rx ry q) hf) fun E σ H ⟨φ, F, ρ, S, g, sl, p⟩ => by
  unfold sAug at p
  split at p
  · rename_i v q
    obtain ⟨x, h1, h2⟩ := sl.2 i v q
    refine ⟨x, h1, φ, F, ρ, S, g, sl, PostS.st g sl p fun φ1 F1 H1 S1 u y nw1 r1 p1 => ok nw1.sg (h2.now nw1) r1 (PostS.st (R := RepV X.K X.mg) nw1.sg (sl.now nw1) p1 fun φ2 F2 H2 S2 w z nw2 r2 p2 => PostS.nx nw2.sg (((sl.now nw1).now nw2).set r2) p2)⟩
  · exact p.elim⟩
theorem ds_put {o i : Expr} {fo fi fe : Ev} {p2 : Pos} (ho : DE X W o fo) (hi : DE X W i fi) (he : DE X W e fe) (hs : swapsWithSole [.Subscript o i p2] e pos.line X.env = pure false := by rfl) (hw : swappedStores [.Subscript o i p2] e X.env = pure none := by rfl)
    (h1 : (assignEach [.Subscript o i p2] X.env).map (·.2) = [assign (.Subscript o i p2) X.env] := by rfl) (ha : ∀ v, assign (.Subscript o i p2) X.env v = (do
      let ov ← holding [v] (eval o X.env)
      let iv ← holding [v, ov] (eval i X.env)
      standAt p2
      holding [v, ov, iv] (setItem ov iv v)
      release [v, ov, iv] []) := by intro _; rfl) : DS X W (.Assign [.Subscript o i p2] e pos) (sPut fo fi fe) :=
  ⟨PS.mono (ps_asg he.r (pg_sub ho.r hi.r set_list ha) hs hw h1) fun E σ H ⟨φ, F, ρ, S, g, sl, p⟩ => ⟨φ, F, ρ, S, g, sl, PostS.st g sl p fun φ1 F1 H1 S1 v x nw1 r1 p1 => by
    have hne : fr v S1 ≠ .bad := fun e => by rw [e] at p1; exact p1
    obtain ⟨φ2, F2, S2, d, nw2, f2, e2⟩ := fr_ok nw1.sg r1 hne
    rw [e2] at p1
    have p2 := PostS.start nw1.sg nw2 p1
    have sl2 := (sl.now nw1).now nw2
    refine ⟨φ2, F2, ρ, S2, nw2.sg, sl2, PostS.st nw2.sg sl2 p2 fun φ3 F3 H3 S3 ov ox nw3 r3 p3 => ⟨φ3, F3, ρ, S3, nw3.sg, sl2.now nw3, PostS.st nw3.sg (sl2.now nw3) p3 fun φ4 F4 H4 S4 iv ix nw4 r4 p4 => ?_⟩⟩
    split at p4
    · rename_i nn k q
      have r3' := RepV.now nw4 r3
      obtain ⟨hn, rfl⟩ := r3'
      split at p4
      · rename_i xs q2
        split at p4
        · rename_i j q3
          obtain ⟨h1, ys, h2, h3⟩ := nw4.sg.obj nn _ q2
          have f4 : Fz X.K F4 H4 x d := (f2.ext nw3.ext.sub nw3.ext.same).ext nw4.ext.sub nw4.ext.same
          refine ⟨φ4 nn, ys, k, j, rfl, ob_of nw4.sg r4 q, h2, by rw [h3.len]; exact q3, ?_⟩
          have nw5 := nw4.sg.write (o := .lst (ys.set j x)) (mo := .lst (xs.set j d)) q2 rfl fun nf same => ⟨nf, _, upd_same, (h3.set f4 j).ext (fun _ h => h) same⟩
          have sl5 := ((sl2.now nw3).now nw4).now nw5
          exact PostS.nx nw5.sg sl5 (PostS.start nw4.sg nw5 p4)
        · exact p4.elim
      · exact p4.elim
    · exact p4.elim⟩⟩
end
def YI (K : PySem.W.Frag) (F : Addr → Prop) (H H' : Hp) (v : V) (H'' : Hp) (d : D) : Prop :=
  (H'' = H' ∧ Fz K F H v d) ∨ ∃ T vs es, v = .ref T ∧ H' T = none ∧ H'' = upd H' T (.tup vs) ∧ d = .tuple es ∧ FzAll K F H vs es
abbrev Agree (F : Addr → Prop) (H H' : Hp) : Prop := ∀ a, F a → H' a = H a
structure Yl (K : PySem.W.Frag) (F : Addr → Prop) (H : Hp) (J : It) (ds : List D) : Prop where
  goes : ∀ i H', i < ds.length → Agree F H H' → J.go i H'
  stops : ∀ H', Agree F H H' → J.stop ds.length H'
  yields : ∀ i H' v H'', i < ds.length → Agree F H H' → J.yld i H' v H'' → ∃ d, ds[i]? = some d ∧ YI K F H H' v H'' d
theorem Yl.walk {K : PySem.W.Frag} {F : Addr → Prop} {H : Hp} {J : It} {ds : List D} (y : Yl K F H J ds) : Walk J ds.length (Agree F H) (fun i H' v H'' => ∃ d, ds[i]? = some d ∧ YI K F H H' v H'' d) :=
  ⟨fun i H' h g => y.goes i H' h g, fun H' g => y.stops H' g, fun i H' v H'' h g q => y.yields i H' v H'' h g q⟩
abbrev RepY (K : PySem.W.Frag) : (Nat → Addr) → (Addr → Prop) → Hp → Nat → It → List D → Prop := fun _ F H _ J ds => Yl K F H J ds
def RI (K : PySem.W.Frag) (mg : Str → Option Value) (W : WX) (f : Iv) : TI := fun σ H R => ∃ φ F ρ S, SG K φ F H S ∧ Slots K mg φ F H S.length σ ρ ∧ PostG K mg (RepY K) (fun c od H' => W c od σ H') S.length φ F H R (f ρ S)
structure DI (X : Cx) (W : WX) (tg it : Expr) (f : Iv) : Prop where
  r : PI X tg it (RI X.K X.mg W f)
theorem PI.mono {X : Cx} {tg e : Expr} {t t' : TI} (h : PI X tg e t) (m : ∀ σ H Q, t' σ H Q → t σ H Q) : PI X tg e t' := ⟨fun pins s σ H Q I q => h.run pins s σ H Q I (m _ _ _ q)⟩
def iSeq (f : Ev) : Iv := fun ρ S => (f ρ S).bind fun v S1 => (fr v S1).bind fun d S2 => match seqOf d with
  | some ds => .ok ds S2
  | none => .bad
def rangeD (lo hi : Int) : List D := (List.range (hi - lo).toNat).map fun i => .int (lo + (i : Nat))
def iRange (f : Av) : Iv := fun ρ S => (f ρ S).bind fun vs S1 => match vs with
  | [v] => match view S1 v with
    | some (.int j) => if -(2 ^ 62) ≤ j ∧ j < 2 ^ 62 then .ok (rangeD 0 j) S1 else .bad
    | _ => .bad
  | [v, u] => match view S1 v, view S1 u with
    | some (.int i), some (.int j) => if -(2 ^ 62) ≤ i ∧ i < 2 ^ 62 ∧ -(2 ^ 62) ≤ j ∧ j < 2 ^ 62 then .ok (rangeD i j) S1 else .bad
    | _, _ => .bad
  | _ => .bad
section
variable {X : Cx} {W : WX} {tg l : Expr}
def jSeq (K : PySem.W.Frag) (tl : TE) : TI := fun σ H R => tl σ H fun x H1 => ∃ a, x = .ref a ∧ (((∃ xs, SqL K H1 a xs) ∧ R (Itl K a) H1) ∨ ((∃ xs, SqT K H1 a xs) ∧ R (Itt K a) H1))
theorem pi_seq {tl : TE} (h : PE X l tl) : PI X tg l (jSeq X.K tl) := ⟨fun pins s σ H R I q => thn (h.run pins s σ H _ I q) fun v s1 ⟨x, H1, I1, r1, a, e, q1⟩ => by
  subst e
  cases r1
  have fresh : ∀ b ∈ [s1.heap.objs.size], FpOk X pins H1 b := fun b hb => by
    obtain rfl : b = s1.heap.objs.size := by simpa using hb
    exact I1.fpOk (Nat.le_refl _) (I1.hok.fresh (Nat.le_refl _))
  rcases q1 with ⟨⟨xs, hq⟩, q1⟩ | ⟨⟨xs, hq⟩, q1⟩
  · obtain ⟨its, _, p, _⟩ := I1.list hq
    exact wpAny_pyIter_list p.isList ⟨_, _, _, _, H1, rfl, I1.kept (t' := s1.toks) fun b o e => Heap.get?_push_of_some _ e, turn_list a _, ⟨_, Heap.get?_push_size _ rfl, rfl, rfl⟩, fresh, q1⟩
  · obtain ⟨its, _, p, _⟩ := I1.tuple hq
    exact wpAny_pyIter_tuple (show s1.heap.IsTuple a its.toArray from p) ⟨_, _, _, _, H1, rfl, I1.kept (t' := s1.toks) fun b o e => Heap.get?_push_of_some _ e, turn_tuple a _, ⟨_, Heap.get?_push_size _ rfl, rfl, rfl⟩, fresh, q1⟩⟩
variable {K : PySem.W.Frag} {F : Addr → Prop} {H : Hp} {a b : Addr} {xs ys : List V} {ds es : List D}
theorem yl_list (hf : F a) (h1 : H a = some (.lst xs)) (h2 : FzAll K F H xs ds) : Yl K F H (Itl K a) ds := by
  have at_ : ∀ H', Agree F H H' → SqL K H' a xs := fun H' g => .inl (.inl ((g a hf).trans h1))
  refine ⟨fun i H' hi g => ?_, fun H' g => ⟨xs, at_ H' g, by rw [h2.len]; exact Nat.le_refl _⟩, fun i H' v H'' hi g y => ?_⟩
  · obtain ⟨v, hv, _⟩ := h2.get (List.getElem?_eq_getElem hi)
    exact ⟨xs, v, at_ H' g, hv⟩
  · obtain ⟨v', hv, fv⟩ := h2.get (List.getElem?_eq_getElem hi)
    have e := y.2 xs (at_ H' g)
    rw [hv] at e
    cases e
    exact ⟨ds[i], List.getElem?_eq_getElem hi, .inl ⟨y.1, fv⟩⟩
theorem yl_tup (h1 : FqT K F H a xs) (h2 : FzAll K F H xs ds) : Yl K F H (Itt K a) ds := by
  have at_ : ∀ H', Agree F H H' → SqT K H' a xs := fun H' g => (h1.ext (fun _ h => h) g).sq
  refine ⟨fun i H' hi g => ?_, fun H' g => ⟨xs, at_ H' g, by rw [h2.len]; exact Nat.le_refl _⟩, fun i H' v H'' hi g y => ?_⟩
  · obtain ⟨v, hv, _⟩ := h2.get (List.getElem?_eq_getElem hi)
    exact ⟨xs, v, at_ H' g, hv⟩
  · obtain ⟨v', hv, fv⟩ := h2.get (List.getElem?_eq_getElem hi)
    have e := y.2 xs (at_ H' g)
    rw [hv] at e
    cases e
    exact ⟨ds[i], List.getElem?_eq_getElem hi, .inl ⟨y.1, fv⟩⟩
theorem rangeD_len {lo hi : Int} : (rangeD lo hi).length = (hi - lo).toNat := by simp [rangeD]
theorem yl_range {lo hi : Int} : Yl K F H (Itr lo (hi - lo).toNat) (rangeD lo hi) := by
  refine ⟨fun i H' hi _ => by rw [rangeD_len] at hi; exact hi, fun H' _ => by rw [rangeD_len]; exact Nat.le_refl _, fun i H' v H'' hi _ y => ?_⟩
  rw [rangeD_len] at hi
  exact ⟨.int (lo + (i : Nat)), by simp [rangeD, hi], .inl ⟨y.1, by rw [y.2]; exact .int _⟩⟩
theorem di_seq {f : Ev} (h : DE X W l f) : DI X W tg l (iSeq f) := ⟨PI.mono (pi_seq h.r) fun σ H Q ⟨φ, F, ρ, S, g, sl, p⟩ => ⟨φ, F, ρ, S, g, sl, PostG.bind g p fun φ1 F1 H1 S1 v x nw1 r1 p1 => by
  have hne : fr v S1 ≠ .bad := fun e => by rw [e] at p1; exact p1
  obtain ⟨φ2, F2, S2, d, nw2, f2, e2⟩ := fr_ok nw1.sg r1 hne
  rw [e2] at p1
  have p2 := PostG.start nw1.sg nw2 p1
  cases d <;> first | exact p2.elim | skip
  · cases f2 with
    | lst h1 h2 h3 => exact ⟨_, rfl, .inl ⟨⟨_, .inl (.inl h2)⟩, p2 _ _ _ (.refl nw2.sg) _ (yl_list h1 h2 h3)⟩⟩
  · cases f2 with
    | tup h1 h2 => exact ⟨_, rfl, .inr ⟨⟨_, h1.sq⟩, p2 _ _ _ (.refl nw2.sg) _ (yl_tup h1 h2)⟩⟩⟩⟩
theorem range_1 {f : Av} {σ : L2.St} {H : Hp} {R : It → Hp → Prop} (h : RI X.K X.mg W (iRange f) σ H R) (h1 : ∀ ρ S vs S1, f ρ S = .ok vs S1 → ∃ v, vs = [v]) : iRng1 (RA X.K X.mg W f) σ H R := by
  obtain ⟨φ, F, ρ, S, g, sl, p⟩ := h
  refine ⟨φ, F, ρ, S, g, sl, ?_⟩
  unfold iRange at p
  cases e0 : f ρ S with
  | bad => rw [e0] at p; exact p
  | ex e S1 => rw [e0] at p; exact p
  | ok vs S1 =>
    rw [e0] at p
    obtain ⟨v, rfl⟩ := h1 _ _ _ _ e0
    intro φ1 F1 H1 nw1 xs r
    have p1 := PostG.start g nw1 p
    obtain ⟨x, rfl, r1⟩ := reps1 r
    simp only [bind_ok] at p1
    cases e : view S1 v with
    | none => simp only [e] at p1; exact p1.elim
    | some d =>
      simp only [e] at p1
      cases d <;> dsimp only at p1 <;> first | exact p1.elim | skip
      rename_i j
      by_cases hl : -(2 ^ 62) ≤ j ∧ j < 2 ^ 62
      · rw [if_pos hl] at p1
        refine ⟨j, by rw [show x = _ from ob_of nw1.sg r1 e], hl.1, hl.2, ?_⟩
        have y := p1 _ _ _ (.refl nw1.sg) _ (yl_range (K := X.K) (F := F1) (H := H1) (lo := 0) (hi := j))
        rwa [Int.sub_zero] at y
      · rw [if_neg hl] at p1; exact p1.elim
theorem range_2 {f : Av} {σ : L2.St} {H : Hp} {R : It → Hp → Prop} (h : RI X.K X.mg W (iRange f) σ H R) (h1 : ∀ ρ S vs S1, f ρ S = .ok vs S1 → ∃ v u, vs = [v, u]) : iRng2 (RA X.K X.mg W f) σ H R := by
  obtain ⟨φ, F, ρ, S, g, sl, p⟩ := h
  refine ⟨φ, F, ρ, S, g, sl, ?_⟩
  unfold iRange at p
  cases e0 : f ρ S with
  | bad => rw [e0] at p; exact p
  | ex e S1 => rw [e0] at p; exact p
  | ok vs S1 =>
    rw [e0] at p
    obtain ⟨v, u, rfl⟩ := h1 _ _ _ _ e0
    intro φ1 F1 H1 nw1 xs r
    have p1 := PostG.start g nw1 p
    obtain ⟨x, y, rfl, r1, r2⟩ := reps2 r
    simp only [bind_ok] at p1
    split at p1
    · rename_i i j e1 e2
      by_cases hl : -(2 ^ 62) ≤ i ∧ i < 2 ^ 62 ∧ -(2 ^ 62) ≤ j ∧ j < 2 ^ 62
      · rw [if_pos hl] at p1
        exact ⟨i, j, by rw [show x = _ from ob_of nw1.sg r1 e1, show y = _ from ob_of nw1.sg r2 e2], hl, p1 _ _ _ (.refl nw1.sg) _ yl_range⟩
      · rw [if_neg hl] at p1; exact p1.elim
    · exact p1.elim
theorem cons1 {f : Ev} {ρ : Env} {S S1 : Store} {vs : List Vl} (h : aCons f aNil ρ S = .ok vs S1) : ∃ v, vs = [v] := by
  unfold aCons aNil at h
  cases e : f ρ S with
  | ok v S2 => simp only [e, bind_ok] at h; cases h; exact ⟨v, rfl⟩
  | ex x S2 => simp only [e, bind_ex] at h; cases h
  | bad => simp only [e, bind_bad] at h; cases h
theorem cons2 {f g : Ev} {ρ : Env} {S S1 : Store} {vs : List Vl} (h : aCons f (aCons g aNil) ρ S = .ok vs S1) : ∃ v u, vs = [v, u] := by
  unfold aCons at h
  cases e : f ρ S with
  | ok v S2 =>
    simp only [e, bind_ok] at h
    cases e2 : ((g ρ S2).bind fun v S1 => (aNil ρ S1).bind fun vs S2 => Res.ok (v :: vs) S2) with
    | ok us S3 =>
      simp only [e2, bind_ok] at h
      cases h
      obtain ⟨u, rfl⟩ := cons1 (f := g) e2
      exact ⟨v, u, rfl⟩
    | ex x S2 => simp only [e2, bind_ex] at h; cases h
    | bad => simp only [e2, bind_bad] at h; cases h
  | ex x S2 => simp only [e, bind_ex] at h; cases h
  | bad => simp only [e, bind_bad] at h; cases h
theorem di_range1 {c : Expr} {f : Ev} {p pos : Pos} (hg : Gl X "range") (hm : X.mg "range" = none) (h : DA X W [c] (aCons f aNil)) (hs : starEach [c] X.env = [(false, eval c X.env)] := by rfl) : DI X W tg (.Call (.Name "range" p) [c] [] pos) (iRange (aCons f aNil)) :=
  ⟨PI.mono (pi_range1 hg hm h.r hs) fun σ H Q q => range_1 q fun _ _ _ _ => cons1⟩
theorem di_range2 {c d : Expr} {f f' : Ev} {p pos : Pos} (hg : Gl X "range") (hm : X.mg "range" = none) (h : DA X W [c, d] (aCons f (aCons f' aNil))) (hs : starEach [c, d] X.env = [(false, eval c X.env), (false, eval d X.env)] := by rfl) (hs2 : starEach [d] X.env = [(false, eval d X.env)] := by rfl) :
    DI X W tg (.Call (.Name "range" p) [c, d] [] pos) (iRange (aCons f (aCons f' aNil))) := ⟨PI.mono (pi_range2 hg hm h.r hs hs2) fun σ H Q q => range_2 q fun _ _ _ _ => cons2⟩
end
section
variable {X : Cx} {W : WX} {k : Nat} {tg it c : Expr} {body : List Stmt} {pos : Pos} {f : Iv} {g : Tg} {ws : List Nat} {sb : Sv} {gc : Tv}
theorem ds_for {j : Nat} (cc : Cc X W j) (hi : DI X W tg it f) (hg : DG X tg g ws) (hb : DB X W body sb) (hs : ∀ x, foldedSetIterable it X.env x = pure x := by intro _; rfl) : DS X W (.For tg it body [] pos) (sFor f g sb) :=
  ⟨PS.mono (ps_for cc.po cc.calm hi.r hg.r hb.r hs) fun E σ H ⟨φ, F, ρ, S, gs, sl, p⟩ => ⟨φ, F, ρ, S, gs, sl, PostS.st (R := RepY X.K) gs sl p fun φ1 F1 H1 S1 ds J nw1 yl p1 => by
    have ag : ∀ {φ2 F2 H2 S2}, Now X.K S1.length φ1 F1 H1 φ2 F2 H2 S2 → Agree F1 H1 H2 := fun n a h => n.ext.same a h
    refine for_it yl.walk (fun i σ2 H2 => ∃ φ2 F2 ρ2 S2, Now X.K S1.length φ1 F1 H1 φ2 F2 H2 S2 ∧ Slots X.K X.mg φ2 F2 H2 S2.length σ2 ρ2 ∧ PostS X.K X.mg W S2.length φ2 F2 H2 E (forL g sb (ds.drop i) ρ2 S2)) ⟨φ1, F1, ρ, S1, .refl nw1.sg, sl.now nw1, p1⟩ (fun i σ2 H2 _ ⟨_, _, _, _, n, _⟩ => ag n) ?_ ?_
    · intro i v σ2 H2 H3 hlt ⟨φ2, F2, ρ2, S2, nw2, sl2, p2⟩ ⟨d, hd, yi⟩
      have hdr : ds.drop i = d :: ds.drop (i + 1) := by
        obtain ⟨h1, h2⟩ := List.getElem?_eq_some_iff.mp hd
        rw [← h2, List.drop_eq_getElem_cons h1]
      rw [hdr] at p2
      -- the item, frozen
      obtain ⟨F3, nw3, fz3⟩ : ∃ F3, Now X.K S2.length φ2 F2 H2 φ2 F3 H3 S2 ∧ Fz X.K F3 H3 v d := by
        rcases yi with ⟨rfl, fz⟩ | ⟨T, vs, es, rfl, hT, rfl, rfl, fz⟩
        · exact ⟨F2, .refl nw2.sg, fz.ext nw2.ext.sub nw2.ext.same⟩
        · have nw := nw2.sg.fresh (o := .tup vs) hT
          exact ⟨_, nw, .tup (.inl ⟨.inr rfl, upd_same⟩) ((fz.ext nw2.ext.sub nw2.ext.same).ext nw.ext.sub nw.ext.same)⟩
      have p3 := PostS.start nw2.sg nw3 p2
      have sl3 := sl2.now nw3
      refine ⟨φ2, F3, ρ2, S2, .d d, nw3.sg, sl3, fz3, ?_⟩
      unfold forL at p3
      cases q : g (.d d) ρ2 with
      | none => rw [q] at p3; exact p3.elim
      | some ρ3 =>
        simp only [q] at p3 ⊢
        refine fun σ3 sl4 _ => ⟨φ2, F3, ρ3, S2, nw3.sg, sl4, ?_⟩
        have base := Now.trans nw1.sg nw2 nw3
        cases e : sb ρ3 S2 with
        | nx ρ4 S4 =>
          simp only [e] at p3
          exact fun φ5 F5 H5 nw5 σ5 sl5 => ⟨φ5, F5, ρ4, S4, Now.trans nw1.sg base nw5, sl5, PostS.start nw3.sg nw5 p3⟩
        | ct ρ4 S4 =>
          simp only [e] at p3
          exact fun φ5 F5 H5 nw5 σ5 sl5 => ⟨φ5, F5, ρ4, S4, Now.trans nw1.sg base nw5, sl5, PostS.start nw3.sg nw5 p3⟩
        | bk ρ4 S4 => simp only [e] at p3; exact p3
        | ret v4 S4 => simp only [e] at p3; exact p3
        | ex x4 ρ4 S4 => simp only [e] at p3; exact p3
        | bad => simp only [e] at p3; exact p3
    · intro σ2 H2 ⟨φ2, F2, ρ2, S2, nw2, sl2, p2⟩
      rw [List.drop_length] at p2
      exact PostS.nx nw2.sg sl2 p2⟩⟩
theorem ds_while {j : Nat} (cc : Cc X W j) (hc : DT X W c gc) (hb : DB X W body sb) : DS X W (.While c body [] pos) (sWhile gc sb) :=
  ⟨PS.mono (ps_while cc.po hc.r hb.r) fun E σ H ⟨φ, F, ρ, S, gs, sl, p⟩ => by
    have hne : sWhile gc sb ρ S ≠ .bad := fun e => by rw [e] at p; exact p
    obtain ⟨n, hn⟩ := sWhile_ex hne
    refine ⟨fun m σ2 H2 => ∃ φ2 F2 ρ2 S2 r, SG X.K φ2 F2 H2 S2 ∧ Slots X.K X.mg φ2 F2 H2 S2.length σ2 ρ2 ∧ whN gc sb m ρ2 S2 = some r ∧ PostS X.K X.mg W S2.length φ2 F2 H2 E r, ⟨n, φ, F, ρ, S, _, gs, sl, hn, p⟩, ?_⟩
    rintro m σ2 H2 ⟨φ2, F2, ρ2, S2, r, gs2, sl2, hm, p2⟩
    cases m with
    | zero => simp [whN] at hm
    | succ m =>
      refine ⟨φ2, F2, ρ2, S2, gs2, sl2, ?_⟩
      unfold whN at hm
      cases e : gc ρ2 S2 with
      | bad => simp only [e] at hm; cases hm; exact p2
      | ex x S3 =>
        simp only [e] at hm
        cases hm
        exact fun φ' F' H' nw c od rx => p2 φ' F' H' nw c od rx σ2 (sl2.now nw)
      | ok t S3 =>
        intro φ3 F3 H3 nw3 b eb
        have eb : b = t := eb
        subst eb
        cases b with
        | false =>
          simp only [e] at hm
          cases hm
          simp only [Bool.false_eq_true, if_false]
          exact p2 _ _ _ nw3 σ2 (sl2.now nw3)
        | true =>
          simp only [e] at hm
          simp only [if_true]
          refine ⟨fun σ4 H4 => ∃ φ4 F4 ρ4 S4 r, SG X.K φ4 F4 H4 S4 ∧ Slots X.K X.mg φ4 F4 H4 S4.length σ4 ρ4 ∧ whN gc sb m ρ4 S4 = some r ∧ PostS X.K X.mg W S4.length φ4 F4 H4 E r, fun σ4 H4 h => ⟨m, Nat.lt_succ_self m, h⟩, φ3, F3, ρ2, S3, nw3.sg, sl2.now nw3, ?_⟩
          have p3 := PostS.start gs2 nw3 p2
          cases e2 : sb ρ2 S3 with
          | nx ρ4 S4 =>
            simp only [e2] at hm
            exact fun φ5 F5 H5 nw5 σ5 sl5 => ⟨φ5, F5, ρ4, S4, r, nw5.sg, sl5, hm, PostS.start nw3.sg nw5 p3⟩
          | ct ρ4 S4 =>
            simp only [e2] at hm
            exact fun φ5 F5 H5 nw5 σ5 sl5 => ⟨φ5, F5, ρ4, S4, r, nw5.sg, sl5, hm, PostS.start nw3.sg nw5 p3⟩
          | bk ρ4 S4 => simp only [e2] at hm; cases hm; exact p3
          | ret v4 S4 => simp only [e2] at hm; cases hm; exact p3
          | ex x4 ρ4 S4 => simp only [e2] at hm; cases hm; exact p3
          | bad => simp only [e2] at hm; cases hm; exact p3⟩
end
def wipeE (ρ : Env) : List Nat → Env
  | [] => ρ
  | v :: vs => (wipeE ρ vs).set v none
def noX {α : Type} : Res α → Res α
  | .ok a S => .ok a S
  | _ => .bad
@[simp] theorem noX_ok {α : Type} (a : α) (S : Store) : noX (Res.ok a S) = .ok a S := rfl
def lcL (g : Tg) (t : Tv) (e : Ev) (ρ : Env) : List D → List D → Store → Res (List D)
  | [], acc, S => .ok acc S
  | x :: xs, acc, S => match g (.d x) ρ with
    | none => .bad
    | some ρ1 => (noX (t ρ1 S)).bind fun c S1 => if c = true then (noX (e ρ1 S1)).bind fun v S2 => (fr v S2).bind fun d S3 => if acc.length < sizeLine then lcL g t e ρ xs (acc ++ [d]) S3 else .bad
      else lcL g t e ρ xs acc S1
def eLc (m : Bool) (it : Iv) (g : Tg) (t : Tv) (e : Ev) (vs : List Nat) : Ev := fun ρ S => (it ρ S).bind fun ds S1 => (lcL g t e (wipeE ρ vs) ds [] S1).bind fun acc S2 => mkL m acc S2
def tYesD : Tv := fun _ S => .ok true S
structure DTs (X : Cx) (W : WX) (ifs : List Expr) (t : Tv) : Prop where
  r : PTs X ifs (RT X.K X.mg W t)
theorem PTs.mono {X : Cx} {e : List Expr} {t t' : TT} (h : PTs X e t) (m : ∀ σ H Q, t' σ H Q → t σ H Q) : PTs X e t' := ⟨fun pins s σ H Q I q => h.run pins s σ H Q I (m _ _ _ q)⟩
theorem dts_nil {X : Cx} {W : WX} : DTs X W [] tYesD := ⟨PTs.mono pts_nil fun σ H Q ⟨φ, F, ρ, S, g, sl, p⟩ => PostT.ok g p⟩
theorem dts_one {X : Cx} {W : WX} {c : Expr} {t : Tv} (h : DT X W c t) : DTs X W [c] t := ⟨pts_one h.r⟩
section
variable {K : PySem.W.Frag} {mg : Str → Option Value} {φ : Nat → Addr} {F : Addr → Prop} {H : Hp} {n : Nat}
theorem wipeE_length (ρ : Env) : ∀ vs : List Nat, (wipeE ρ vs).length = ρ.length
  | [] => rfl
  | v :: vs => by unfold wipeE; rw [List.length_set, wipeE_length ρ vs]
theorem wipe_get (σ : L2.St) (i : Nat) : ∀ vs : List Nat, (L2.wipe σ vs)[i]? = if i ∈ vs then (if i < σ.length then some none else none) else σ[i]?
  | [] => by simp [L2.wipe]
  | v :: vs => by
    unfold L2.wipe
    by_cases hv : v = i
    · subst hv
      by_cases hl : v < σ.length
      · rw [List.getElem?_set_self (by rw [wipe_length]; exact hl)]; simp [hl]
      · rw [List.getElem?_eq_none (by rw [List.length_set, wipe_length]; omega)]; simp [hl]
    · rw [List.getElem?_set_ne hv, wipe_get σ i vs]
      have : i ∈ v :: vs ↔ i ∈ vs := by simp [Ne.symm hv]
      simp only [this]
theorem wipeE_get (σ : Env) (i : Nat) : ∀ vs : List Nat, (wipeE σ vs)[i]? = if i ∈ vs then (if i < σ.length then some none else none) else σ[i]?
  | [] => by simp [wipeE]
  | v :: vs => by
    unfold wipeE
    by_cases hv : v = i
    · subst hv
      by_cases hl : v < σ.length
      · rw [List.getElem?_set_self (by rw [wipeE_length]; exact hl)]; simp [hl]
      · rw [List.getElem?_eq_none (by rw [List.length_set, wipeE_length]; omega)]; simp [hl]
    · rw [List.getElem?_set_ne hv, wipeE_get σ i vs]
      have : i ∈ v :: vs ↔ i ∈ vs := by simp [Ne.symm hv]
      simp only [this]
theorem Slots.wiped {σ : L2.St} {ρ : Env} (r : Slots K mg φ F H n σ ρ) (vs : List Nat) : Slots K mg φ F H n (L2.wipe σ vs) (wipeE ρ vs) := by
  refine ⟨by rw [wipe_length, wipeE_length]; exact r.1, fun i x h => ?_⟩
  rw [wipeE_get] at h
  split at h
  · split at h <;> cases h
  · rename_i hn
    obtain ⟨v, h1, h2⟩ := r.2 i x h
    exact ⟨v, by rw [wipe_get, if_neg hn]; exact h1, h2⟩
theorem wipe_same {σ σ1 : L2.St} {ws vs : List Nat} (hw : ∀ i, i ∈ ws → i ∈ vs) (kp : Kept ws (L2.wipe σ vs) σ1) : L2.wipe σ1 vs = L2.wipe σ vs := by
  obtain ⟨hl, h⟩ := kp
  apply List.ext_getElem?
  intro i
  rw [wipe_length] at hl
  rw [wipe_get, wipe_get]
  by_cases hi : i ∈ vs
  · simp only [hi, if_true, hl]
  · simp only [hi, if_false]
    rw [h i fun q => hi (hw i q), wipe_get, if_neg hi]
end
section
variable {X : Cx} {W : WX} {tg it elt : Expr} {ifs : List Expr} {scope : Scope} {own : List (Str × Nat)} {pos : Pos} {f : Iv} {g : Tg} {ws : List Nat} {t : Tv} {e : Ev}
theorem lc_reads {m : Bool} {vs : List Nat} (hw : ∀ i, i ∈ ws → i ∈ vs) {σ : L2.St} {H : Hp} {Q : VK} (h : RE X.K X.mg W (eLc m f g t e vs) σ H Q) :
    tLc (RI X.K X.mg W f) (RG X.K X.mg g ws) (RT X.K X.mg W0 t) (RE X.K X.mg W0 e) vs σ H Q := by
  obtain ⟨φ, F, ρ, S, gs, sl, p⟩ := h
  refine ⟨φ, F, ρ, S, gs, sl, PostG.bind gs p fun φ1 F1 H1 S1 ds J nw1 yl p1 => fun Dd hD => ?_⟩
  have sl1 := sl.now nw1
  have dom1 := nw1.sg.dom
  have nF1 : ¬ F1 Dd := fun h => dom1 Dd h hD
  refine lc_it yl.walk (fun i H2 => ∃ φ2 F2 S2 xs acc, Now X.K S1.length φ1 F1 H1 φ2 F2 H2 S2 ∧ H2 Dd = some (.lst xs) ∧ ¬ F2 Dd ∧ (∀ i, i < S2.length → φ2 i ≠ Dd) ∧ FzAll X.K F2 H2 xs acc ∧
      Post X.K X.mg (fun c od H' => W c od σ H') S1.length φ1 F1 H1 Q ((lcL g t e (wipeE ρ vs) (ds.drop i) acc S2).bind fun acc S2 => mkL m acc S2))
    ⟨φ1, F1, S1, [], [], (Now.refl nw1.sg).other hD dom1 nF1 fun i hi => nw1.sg.neAt hi hD, upd_same, nF1, fun i hi => nw1.sg.neAt hi hD, .nil, p1⟩ (fun i H2 _ ⟨_, _, _, _, _, n, _⟩ a h => n.ext.same a h) ?_ ?_
  · intro i v H2 H3 hlt ⟨φ2, F2, S2, xs, acc, nw2, d2, f2, s2, fz2, p2⟩ ⟨d, hd, yi⟩
    have hdr : ds.drop i = d :: ds.drop (i + 1) := by
      obtain ⟨h1, h2⟩ := List.getElem?_eq_some_iff.mp hd
      rw [← h2, List.drop_eq_getElem_cons h1]
    rw [hdr] at p2
    obtain ⟨F3, nw3, fz3⟩ : ∃ F3, Now X.K S2.length φ2 F2 H2 φ2 F3 H3 S2 ∧ Fz X.K F3 H3 v d := by
      rcases yi with ⟨rfl, fz⟩ | ⟨T, us, es, rfl, hT, rfl, rfl, fz⟩
      · exact ⟨F2, .refl nw2.sg, fz.ext nw2.ext.sub nw2.ext.same⟩
      · have nw := nw2.sg.fresh (o := .tup us) hT
        exact ⟨_, nw, .tup (.inl ⟨.inr rfl, upd_same⟩) ((fz.ext nw2.ext.sub nw2.ext.same).ext nw.ext.sub nw.ext.same)⟩
    have base3 := Now.trans nw1.sg nw2 nw3
    obtain ⟨d3, f3, s3⟩ := nw3.priv (by rw [d2]; simp) f2 s2
    have slw : Slots X.K X.mg φ2 F3 H3 S2.length (L2.wipe σ vs) (wipeE ρ vs) := ((sl1.now nw2).now nw3).wiped vs
    refine ⟨φ2, F3, wipeE ρ vs, S2, .d d, nw3.sg, slw, fz3, ?_⟩
    unfold lcL at p2
    cases q : g (.d d) (wipeE ρ vs) with
    | none => rw [q] at p2; exact p2.elim
    | some ρ3 =>
      simp only [q] at p2 ⊢
      have go : Post X.K X.mg (fun c od H' => W c od σ H') S1.length φ1 F1 H1 Q (((noX (t ρ3 S2)).bind fun c S1 => if c = true then (noX (e ρ3 S1)).bind fun v S2 => (fr v S2).bind fun d S3 => if acc.length < sizeLine then lcL g t e (wipeE ρ vs) (ds.drop (i + 1)) (acc ++ [d]) S3 else .bad
        else lcL g t e (wipeE ρ vs) (ds.drop (i + 1)) acc S1).bind fun acc S2 => mkL m acc S2) := p2
      refine fun σ3 sl3 n3 => ⟨wipe_same hw n3, φ2, F3, ρ3, S2, nw3.sg, sl3, ?_⟩
      cases et : t ρ3 S2 with
      | bad => rw [et] at go; exact go.elim
      | ex x S4 => rw [et] at go; exact go.elim
      | ok b S4 =>
        rw [et] at go
        simp only [noX_ok, bind_ok] at go
        intro φ4 F4 H4 nw4 b' eb
        have eb : b' = b := eb
        subst eb
        have base4 := Now.trans nw1.sg base3 nw4
        obtain ⟨d4, f4, s4⟩ := nw4.priv (by rw [d3, d2]; simp) f3 s3
        have d4' : H4 Dd = some (.lst xs) := by rw [d4, d3, d2]
        have fz4 : FzAll X.K F4 H4 xs acc := (fz2.ext nw3.ext.sub nw3.ext.same).ext nw4.ext.sub nw4.ext.same
        cases b' with
        | false =>
          simp only [Bool.false_eq_true, if_false] at go ⊢
          exact ⟨φ4, F4, S4, xs, acc, base4, d4', f4, s4, fz4, go⟩
        | true =>
          simp only [if_true] at go ⊢
          refine ⟨φ4, F4, ρ3, S4, nw4.sg, sl3.now nw4, ?_⟩
          cases ee : e ρ3 S4 with
          | bad => rw [ee] at go; exact go.elim
          | ex x S5 => rw [ee] at go; exact go.elim
          | ok v5 S5 =>
            rw [ee] at go
            simp only [noX_ok, bind_ok] at go
            intro φ5 F5 H5 nw5 y ry
            have hne : fr v5 S5 ≠ .bad := fun e => by rw [e] at go; exact go
            obtain ⟨φ6, F6, S6, d6, nw6, fz6, e6⟩ := fr_ok nw5.sg ry hne
            rw [e6] at go
            simp only [noX_ok, bind_ok] at go
            by_cases hl : acc.length < sizeLine
            · rw [if_pos hl] at go
              have nw56 := Now.trans nw4.sg nw5 nw6
              have base6 := Now.trans nw1.sg base4 nw56
              obtain ⟨d7, f7, s7⟩ := nw56.priv (by rw [d4']; simp) f4 s4
              rw [d4'] at d7
              have fz7 : FzAll X.K F6 H5 xs acc := fz4.ext nw56.ext.sub nw56.ext.same
              refine ⟨xs, d7, by rw [fz7.len]; exact hl, φ6, F6, S6, xs ++ [y], acc ++ [d6], base6.other hD dom1 f7 s7, upd_same, f7, s7, ?_, go⟩
              exact (fz7.append (.cons fz6 .nil)).ext (fun _ h => h) fun a h => upd_ne fun e => f7 (by rw [← e]; exact h)
            · rw [if_neg hl] at go; exact go.elim
  · intro H2 ⟨φ2, F2, S2, xs, acc, nw2, d2, f2, s2, fz2, p2⟩
    rw [List.drop_length] at p2
    have p2 : Post X.K X.mg (fun c od H' => W c od σ H') S1.length φ1 F1 H1 Q (mkL m acc S2) := p2
    cases m with
    | true => exact p2 _ _ _ (nw2.keep hD s2 ⟨f2, xs, d2, fz2⟩) _ ⟨by simp, by simp⟩
    | false => exact p2 _ _ _ (nw2.take hD (by rw [d2]; simp) s2) _ (.lst (.inr rfl) d2 (fz2.ext (fun _ h => .inl h) fun _ _ => rfl))
theorem de_lc {k : Nat} (m : Bool) (cc : Cc X W k) (hi : DI X W tg it f) (ok : BlkOk X.N X.env.scope scope own) (hg : ∀ (s : Shared) (H : Hp) (C : Addr) (cl : List (Str × Addr)) (fp : List Addr), DG (X.blk s H scope (compEnvC scope cl C X.env) fp) tg g ws)
    (ht : ∀ (s : Shared) (H : Hp) (C : Addr) (cl : List (Str × Addr)) (fp : List Addr), DTs (X.blk s H scope (compEnvC scope cl C X.env) fp) W0 ifs t) (he : ∀ (s : Shared) (H : Hp) (C : Addr) (cl : List (Str × Addr)) (fp : List Addr), DE (X.blk s H scope (compEnvC scope cl C X.env) fp) W0 elt e)
    (hw : ∀ i, i ∈ ws → i ∈ own.map (·.2) := by decide) (hs : ∀ x, foldedSetIterable it X.env x = pure x := by intro _; rfl) : DE X W (.ListComp elt [⟨tg, it, ifs, 0⟩] scope pos) (eLc m f g t e (own.map (·.2))) :=
  ⟨PE.mono (pe_lc cc.calm cc.nd hi.r ok (fun s H C cl fp => (hg s H C cl fp).r) (fun s H C cl fp => (ht s H C cl fp).r) (fun s H C cl fp => (he s H C cl fp).r) hs) fun σ H Q h => lc_reads hw h⟩
theorem ds_lc {k : Nat} (i : Nat) {y : Str} {py spos : Pos} (m : Bool) (cc : Cc X W k) (hy : X.N[i]? = some y) (hyl : X.env.scope.names.lookup y = some .local) (hsw : swapsWith (.ListComp elt [⟨tg, it, ifs, 0⟩] scope pos) (some (.Name y py)) spos.line X.env = pure true) (hi : DI X W tg it f) (ok : BlkOk X.N X.env.scope scope own)
    (hg : ∀ (s : Shared) (H : Hp) (C : Addr) (cl : List (Str × Addr)) (fp : List Addr), DG (X.blk s H scope (compEnvC scope cl C X.env) fp) tg g ws) (ht : ∀ (s : Shared) (H : Hp) (C : Addr) (cl : List (Str × Addr)) (fp : List Addr), DTs (X.blk s H scope (compEnvC scope cl C X.env) fp) W0 ifs t)
    (he : ∀ (s : Shared) (H : Hp) (C : Addr) (cl : List (Str × Addr)) (fp : List Addr), DE (X.blk s H scope (compEnvC scope cl C X.env) fp) W0 elt e) (hw : ∀ i, i ∈ ws → i ∈ own.map (·.2) := by decide) (hs : ∀ x, foldedSetIterable it X.env x = pure x := by intro _; rfl) :
    DS X W (.Assign [.Name y py] (.ListComp elt [⟨tg, it, ifs, 0⟩] scope pos) spos) (sSet i (eLc m f g t e (own.map (·.2)))) :=
  ⟨PS.mono (ps_setLc cc.calm cc.nd hy hyl hsw hi.r ok (fun s H C cl fp => (hg s H C cl fp).r) (fun s H C cl fp => (ht s H C cl fp).r) (fun s H C cl fp => (he s H C cl fp).r) hs) fun E σ H ⟨φ, F, ρ, S, gs, sl, p⟩ =>
    lc_reads (W := W) hw ⟨φ, F, ρ, S, gs, sl, PostS.st gs sl p fun φ1 F1 H1 S1 v x nw1 r1 p1 => PostS.nx nw1.sg ((sl.now nw1).set r1) p1⟩⟩
end
def sRaise (x : Str) : Sv := fun ρ S => .ex ⟨x, []⟩ ρ S
theorem ds_raise {X : Cx} {W : WX} {k : Nat} {e : Expr} {pos : Pos} {x : Str} {C : Addr} (cc : Cc X W k) (hm : X.mg x = some (.ref C)) (he : PMk X e (fun _ H Q => Q (.ref C) none H)) : DS X W (.Raise (some e) none pos) (sRaise x) :=
  ⟨PS.mono (ps_raise cc.calm cc.tk he) fun E σ H ⟨φ, F, ρ, S, gs, sl, p⟩ => p φ F H (.refl gs) _ _ ⟨hm, rfl⟩ σ sl⟩
section
variable {P : Program} {w : World} {K : PySem.W.Frag} {mg : Str → Option Value} {base : Heap} {φ φ' : Nat → Addr} {F F' : Addr → Prop} {H H' : Hp} {S S' : Store} {n : Nat}
theorem Now.cut (nw : Now K n φ F H φ' F' H' S') : Now K n φ F H φ' F' H' (S'.take n) :=
  ⟨nw.ext, nw.sg.take n, by rw [List.length_take]; exact Nat.le_min.mpr ⟨Nat.le_refl _, nw.le⟩, nw.rest, fun i h1 h2 => absurd h2 (by rw [List.length_take]; omega), nw.fnew⟩
theorem slots_start {vs : List V} {xs : List Vl} (r : RepVs K mg φ F H n vs xs) (m : Nat) : Slots K mg φ F H n (vs.map some ++ List.replicate m none) (xs.map some ++ List.replicate m none) := by
  have ln := r.len
  refine ⟨by simp [ln], fun i x h => ?_⟩
  have get : ∀ {vs : List V} {xs : List Vl} {i : Nat} {x : Vl}, RepVs K mg φ F H n vs xs → xs[i]? = some x → ∃ v, vs[i]? = some v ∧ RepV K mg φ F H n v x := fun {vs} => by
    induction vs with
    | nil => intro xs i x r h; cases xs with
      | nil => simp at h
      | cons y ys => exact r.elim
    | cons v vs ih => intro xs i x r h; cases xs with
      | nil => exact r.elim
      | cons y ys =>
        cases i with
        | zero => simp at h; subst h; exact ⟨v, rfl, r.1⟩
        | succ i =>
          obtain ⟨v', h1, h2⟩ := ih r.2 (by simpa using h)
          exact ⟨v', by simpa using h1, h2⟩
  by_cases hi : i < xs.length
  · rw [List.getElem?_append_left (by simpa using hi), List.getElem?_map] at h
    cases q : xs[i]? with
    | none => rw [q] at h; cases h
    | some y =>
      rw [q] at h
      cases h
      obtain ⟨v, h1, h2⟩ := get r q
      exact ⟨v, by rw [List.getElem?_append_left (by simpa [ln] using hi), List.getElem?_map, h1]; rfl, h2⟩
  · rw [List.getElem?_append_right (by simpa using hi), List.getElem?_replicate] at h
    split at h <;> cases h
theorem leave_ok {E : XW} {Q : VK} {v : Vl} {x : V} (g : SG K φ F H S) (nw : Now K S.length φ F H φ' F' H' S') (r : RepV K mg φ' F' H' S'.length x v) (p : Post K mg E S.length φ F H Q (leave S.length v S')) : Q x H' := by
  have small : RepV K mg φ' F' H' S'.length x v → (∀ i, v ≠ .loc i) → RepV K mg φ' F' H' (S'.take S.length).length x v := fun r hn => by
    cases v with
    | loc i => exact absurd rfl (hn i)
    | _ => exact r
  cases v with
  | loc i =>
    unfold leave at p
    obtain ⟨hi, rfl⟩ := r
    by_cases hl : i < S.length
    · simp only [hl, if_true] at p
      exact p _ _ _ nw.cut _ ⟨by rw [List.length_take]; omega, rfl⟩
    · simp only [hl, if_false] at p
      cases q : S'[i]? with
      | none => rw [q] at p; exact p.elim
      | some o =>
        simp only [q] at p
        have hlen : (S'.take S.length).length = S.length := by rw [List.length_take]; exact Nat.min_eq_left nw.le
        have k := nw.cut.keep (p := φ' i) (mo := o) (nw.new i (Nat.not_lt.mp hl) hi) (fun j hj e => by
          rw [hlen] at hj
          have := nw.sg.inj j i (Nat.lt_of_lt_of_le hj nw.le) hi e
          omega) (nw.sg.obj i o q)
        rw [hlen] at k
        exact p _ _ _ k _ ⟨by rw [List.length_append, hlen]; simp, by simp⟩
  | d y => exact p _ _ _ nw.cut _ (small r fun _ h => nomatch h)
  | glo y => exact p _ _ _ nw.cut _ (small r fun _ h => nomatch h)
  | ty y => exact p _ _ _ nw.cut _ (small r fun _ h => nomatch h)
  | tys y => exact p _ _ _ nw.cut _ (small r fun _ h => nomatch h)
  | scr y => exact p _ _ _ nw.cut _ (small r fun _ h => nomatch h)
abbrev cxD (P : Program) (w : World) (K : PySem.W.Frag) (mg : Str → Option Value) (base : Heap) (N : List Str) (q : Str) (st : Stmt) (f : Addr) (cdv : Value) (B : Around) (fs : List PySem.Env) (s : Shared) (H : Hp) (E : XK) : Cx := cxOf (L2.CX P w) P w K mg base N q (defScope st) f cdv B fs s H E
abbrev wD (E : XK) : WX := fun c d _ H => E c d H
theorem cc_def {N : List Str} {q : Str} {st : Stmt} {f : Addr} {cdv : Value} {B : Around} {fs : List PySem.Env} {s : Shared} {H : Hp} {E : XK} {k : Nat} (nd : N.Nodup) (rm : Room k (B.deeper (envOfC q (defScope st) s.heap.objs.size f cdv))) (gd : B.guards = some []) :
    Cc (cxD P w K mg base N q st f cdv B fs s H E) (wD E) k := ⟨rfl, nd, takes_of rfl rfl rfl rfl, rm, passes_of rfl, gd⟩
theorem fk_fn {x q : Str} {st : Stmt} {f : Addr} {fd : FuncData} {N ps : List Str} {k : Nat} {b : Sv} (Fu : Fun K x q st f fd) (Sc : FnScope N ps (defScope st))
    (body : ∀ (cdv : Value) (B : Around) (fs : List PySem.Env) (s : Shared) (H : Hp) (E : XK), Cc (cxD P w K mg base N q st f cdv B fs s H E) (wD E) k → DB (cxD P w K mg base N q st f cdv B fs s H E) (wD E) (defBody st) b) :
    Fk P w K mg base (k + 1) f fd ps (spN K mg ps.length (fnOf N.length b)) := by
  refine fk_of Fu Sc (fun vs H Q E h => h.1) fun cdv B fs s H vs Q E rm gd ⟨hl, φ, F, xs, S, g, r, p⟩ => ⟨_, (body cdv B fs s H E (cc_def Sc.nd rm gd)).r, φ, F, _, S, g, slots_start r _, ?_⟩
  have p0 : Post K mg E S.length φ F H Q (fnOf N.length b xs S) := p
  unfold fnOf at p0
  rw [← r.len] at p0
  cases e : b (xs.map some ++ List.replicate (N.length - vs.length) none) S with
  | nx ρ S1 => rw [e] at p0; exact fun φ1 F1 H1 nw σ1 sl => p0 _ _ _ nw.cut .non .non
  | ret v S1 => rw [e] at p0; exact fun φ1 F1 H1 nw x rx => leave_ok g nw rx p0
  | ex x ρ S1 => rw [e] at p0; exact fun φ1 F1 H1 nw c od rx σ1 sl => p0 _ _ _ nw.cut c od rx
  | bk ρ S1 => rw [e] at p0; exact (show False from p0).elim
  | ct ρ S1 => rw [e] at p0; exact (show False from p0).elim
  | bad => rw [e] at p0; exact p0
end
def cutD (xs : List D) (lo hi : Option Int) : List D := (xs.drop (HT.sIx xs.length 0 lo)).take (HT.sIx xs.length xs.length hi - HT.sIx xs.length 0 lo)
abbrev Pv := Env → Store → Res (Option Int)
def pNo : Pv := fun _ S => .ok none S
def pAt (f : Ev) : Pv := fun ρ S => (f ρ S).bind fun v S1 => match view S1 v with
  | some (.int i) => .ok (some i) S1
  | _ => .bad
def slV (m : Bool) (v : Vl) (lo hi : Option Int) (S : Store) : Res Vl := match v with
  | .scr ns => mkL m (cutD (ns.map .int) lo hi) S
  | v => match view S v with
    | some (.list xs) => mkL m (cutD xs lo hi) S
    | some (.tuple xs) => .ok (.d (.tuple (cutD xs lo hi))) S
    | _ => .bad
def eSl (m : Bool) (f : Ev) (lo hi : Pv) : Ev := fun ρ S => (f ρ S).bind fun v S1 => (lo ρ S1).bind fun l S2 => (hi ρ S2).bind fun h S3 => slV m v l h S3
abbrev RepP : (Nat → Addr) → (Addr → Prop) → Hp → Nat → Option Int → Option Int → Prop := fun _ _ _ _ x v => x = v
def RP (K : PySem.W.Frag) (mg : Str → Option Value) (W : WX) (f : Pv) : TO := fun σ H Q => ∃ φ F ρ S, SG K φ F H S ∧ Slots K mg φ F H S.length σ ρ ∧ PostG K mg RepP (fun c od H' => W c od σ H') S.length φ F H Q (f ρ S)
structure DP (X : Cx) (W : WX) (e : Option Expr) (f : Pv) : Prop where
  r : PO X e (RP X.K X.mg W f)
theorem PO.mono {X : Cx} {e : Option Expr} {t t' : TO} (h : PO X e t) (m : ∀ σ H Q, t' σ H Q → t σ H Q) : PO X e t' := ⟨fun pins s σ H Q I q => h.run pins s σ H Q I (m _ _ _ q)⟩
section
variable {K : PySem.W.Frag} {mg : Str → Option Value} {φ : Nat → Addr} {F : Addr → Prop} {H : Hp} {S : Store}
theorem FzAll.cut {xs : List V} {ds : List D} (h : FzAll K F H xs ds) (lo hi : Option Int) : FzAll K F H (cutV xs lo hi) (cutD ds lo hi) := by
  unfold cutV cutD
  rw [h.len]
  exact (h.drop _).take _
theorem cutD_whole {ds : List D} {lo hi : Option Int} (h : HT.sIx ds.length 0 lo = 0 ∧ HT.sIx ds.length ds.length hi = ds.length) : cutD ds lo hi = ds := by
  unfold cutD
  rw [h.1, h.2]
  simp
theorem fz_ints : ∀ ns : List Int, FzAll K F H (ns.map V.int) (ns.map .int)
  | [] => .nil
  | n :: ns => .cons (.int n) (fz_ints ns)
end
section
variable {X : Cx} {W : WX} {e : Expr} {lo hi : Option Expr} {f : Ev} {fl fh : Pv} {pos p2 : Pos}
theorem dp_no : DP X W none pNo := ⟨PO.mono po_none fun σ H Q ⟨φ, F, ρ, S, g, sl, p⟩ => p _ _ _ (.refl g) _ rfl⟩
theorem dp_at (h : DE X W e f) : DP X W (some e) (pAt f) := ⟨PO.mono (po_some h.r) fun σ H Q ⟨φ, F, ρ, S, g, sl, p⟩ => ⟨φ, F, ρ, S, g, sl, PostG.bind g p fun φ1 F1 H1 S1 v x nw1 r1 p1 => by
  split at p1
  · rename_i i q
    exact ⟨i, ob_of nw1.sg r1 q, p1 _ _ _ (.refl nw1.sg) _ rfl⟩
  · exact p1.elim⟩⟩
theorem de_sl (m : Bool) (he : DE X W e f) (hl : DP X W lo fl) (hh : DP X W hi fh) : DE X W (.Subscript e (.Slice lo hi none p2) pos) (eSl m f fl fh) := ⟨PE.mono (pe_slice (sl_list.or sl_tupA) he.r hl.r hh.r) fun σ H Q ⟨φ, F, ρ, S, g, sl, p⟩ =>
  ⟨φ, F, ρ, S, g, sl, PostG.bind g p fun φ1 F1 H1 S1 v x nw1 r1 p1 => ⟨φ1, F1, ρ, S1, nw1.sg, sl.now nw1, PostG.bind nw1.sg p1 fun φ2 F2 H2 S2 l l' nw2 r2 p2 => by
    have r2 : l' = l := r2
    subst r2
    refine ⟨φ2, F2, ρ, S2, nw2.sg, (sl.now nw1).now nw2, PostG.bind nw2.sg p2 fun φ3 F3 H3 S3 h h' nw3 r3 p3 => ?_⟩
    have r3 : h' = h := r3
    subst r3
    have rv := (r1.now nw2).now nw3
    unfold slV at p3
    split at p3
    · rename_i ns
      obtain ⟨a, rfl, q⟩ := rv
      have sq : SqL X.K H3 a (ns.map V.int) := q.elim (fun ⟨_, o, z⟩ => .inl (.inr ⟨o, z⟩)) fun z => .inr z
      exact .inl ⟨a, _, rfl, sq, Post.newL nw3.sg ((fz_ints ns).cut _ _) p3⟩
    · split at p3
      · rename_i ds q
        obtain ⟨a, xs, rfl, h1, h2⟩ := ob_of nw3.sg rv q
        exact .inl ⟨a, xs, rfl, .inl (.inl h1), Post.newL nw3.sg (h2.cut _ _) p3⟩
      · rename_i ds q
        obtain ⟨a, xs, rfl, h1, h2⟩ := ob_of nw3.sg rv q
        refine .inr ⟨a, xs, rfl, h1.sq, fun hw => ?_, fun _ => Post.newT nw3.sg (h2.cut _ _) p3⟩
        rw [h2.len] at hw
        rw [cutD_whole hw] at p3
        exact Post.ok nw3.sg p3 (.tup h1 h2)
      · exact p3.elim⟩⟩⟩
end
def fRepr : Fn := fun vs S => match vs with
  | [v] => match view S v with
    | some d => if (shal d && d.showable && decide (d.shown.length ≤ sizeLine)) = true then .ok (.d (.str d.shown)) S else .bad
    | none => .bad
  | _ => .bad
def rRepr (K : PySem.W.Frag) : List V → Hp → VK → Prop := fun vs H Q => ∃ x d, vs = [x] ∧ Dp K H x d ∧ shal d = true ∧ d.showable = true ∧ d.shown.length ≤ sizeLine ∧ Q (.str d.shown) H
theorem ok_repr {K : PySem.W.Frag} {mg : Str → Option Value} : CallOk K mg (rRepr K) fRepr := by
  intro φ F H S xs vs Q W g r p
  unfold fRepr at p
  split at p
  · rename_i v
    obtain ⟨x, rfl, r1⟩ := reps1 r
    cases e : view S v with
    | none => rw [e] at p; exact p.elim
    | some d =>
      simp only [e] at p
      by_cases hl : (shal d && d.showable && decide (d.shown.length ≤ sizeLine)) = true
      · rw [if_pos hl] at p
        have h2 : (shal d = true ∧ d.showable = true) ∧ d.shown.length ≤ sizeLine := by simpa using hl
        exact ⟨x, d, rfl, (ob_of g r1 e).dp (shal_p h2.1.1).1, h2.1.1, h2.1.2, h2.2, Post.ok g p (.str _)⟩
      · rw [if_neg hl] at p; exact p.elim
  · exact p.elim
mutual
theorem plain_noDict : ∀ d : D, d.plain = true → d.hasDict = false
  | .none, _ => by simp [PyData.hasDict]
  | .bool _, _ => by simp [PyData.hasDict]
  | .int _, _ => by simp [PyData.hasDict]
  | .str _, _ => by simp [PyData.hasDict]
  | .list xs, h => by
    simp only [PyData.hasDict]
    exact plain_noDicts xs (by simpa [PyData.plain] using h)
  | .tuple xs, h => by
    simp only [PyData.hasDict]
    exact plain_noDicts xs (by simpa [PyData.plain] using h)
  | .dict _, h => by simp [PyData.plain] at h
theorem plain_noDicts : ∀ ds : List D, PyData.plainAll ds = true → PyData.hasDictAll ds = false
  | [], _ => by simp [PyData.hasDictAll]
  | x :: xs, h => by
    have h2 : x.plain = true ∧ PyData.plainAll xs = true := by simpa [PyData.plainAll] using h
    simp only [PyData.hasDictAll, plain_noDict x h2.1, plain_noDicts xs h2.2, Bool.or_self]
end
theorem call_reprX {X : Cx} (hg : X.A.guards = some []) (hu : X.A.units + 64 < cLine) : CallR X (.builtin "repr") (rRepr X.K) := by
  intro pins s σ H xs us Q I r h
  obtain ⟨x, d, rfl, dp, hs, hsh, hz, q⟩ := h
  obtain ⟨u, rfl, ru⟩ := vals1 r
  obtain ⟨as, rd⟩ := Dp.reads I d x u dp ru
  have fin : ∀ (h' : Heap) (t : Tok) (tk : Nat), (∀ b o, s.heap.get? b = some o → h'.get? b = some o) → EP X pins σ Q (.str d.shown t) { s with heap := h', toks := tk } := fun h' t tk hk => ⟨.str d.shown, H, I.kept hk, ⟨_, rfl⟩, q⟩
  have hd := (shal_p hs).2
  have nd := plain_noDict d (shal_p hs).1
  cases rd with
  | none => exact PySem.P.repr_of_none (fin s.heap _ _ fun _ _ z => z)
  | bool b =>
    refine PySem.P.repr_of_bool ?_
    have := fin s.heap s.toks (s.toks + 1) fun _ _ z => z
    cases b <;> exact this
  | int i t =>
    have hi : i.natAbs.log2 < 1920 := by simpa [PyData.showable] using hsh
    exact PySem.P.repr_of_int hi (fin s.heap _ _ fun _ _ z => z)
  | str y t => exact PySem.P.repr_of_str (fin s.heap _ _ fun _ _ z => z) hz
  | list h1 h2 h3 h4 => exact repr_of_reads' (.list h1 h2 h3 h4) hsh (fun z => by rw [nd] at z; cases z) hg (by omega) (fun _ _ e => e) (fun h' u tk hk => fin h' u tk hk) hz
  | tuple h1 h2 h3 h4 => exact repr_of_reads' (.tuple h1 h2 h3 h4) hsh (fun z => by rw [nd] at z; cases z) hg (by omega) (fun _ _ e => e) (fun h' u tk hk => fin h' u tk hk) hz
  | dict => rw [PyData.hasDict] at nd; cases nd
theorem walk_fk {l : PySem.W.OpenLaw} {n k : Nat} {q : Program} {loose : List Str} {XP : (Str → Option Value) → Heap → Prop} {YP : World → Heap → Prop} {d : DefRec} {K : Params → PySem.W.Frag} {x : Str} {g : Fn}
    (hn : l.most = some n) (hn2 : n ≤ sizeLine) (noDef : d.params.defaults = []) (room : Room k callerA) (hY : ∀ (w : World) (h : Heap), YP w h → (K w.params).In h)
    (F : ∀ (w : World) (mg : Str → Option Value) (fa : Addr) (h : Heap), (K w.params).In h → h.Ns mainGlobals mg → mg d.name = some (.ref fa) → ∃ fd : FuncData, (∀ (s : Shared) (u : Value), BindsTo s fd ⟨[u], []⟩ [(x, u)]) ∧
        ∀ base : Heap, (K w.params).In base → base.Ns mainGlobals mg → Fk l.prog w (K w.params) mg base k fa fd [x] (spN (K w.params) mg 1 g))
    (law : ∀ ns : List Int, ns.length ≤ n → ∃ S, g [.scr ns] [] = .ok (.d (.bool true)) S) : PySem.W.WalkO q loose XP YP l.row.toRowW d [] (fun f vs => PySem.call f vs) := by
  refine Att.attach_call hn noDef fun w s₀ s₁ mg mb fa o pm cd doc a vs ns G Y ho hd hcd hmg hobj hints hlen hg => ?_
  have inK := hY w _ Y
  obtain ⟨fd, bind, hF⟩ := F w mg fa _ inK G.T.g hmg
  obtain ⟨S, e⟩ := law ns hlen
  have rv := vals_ints hints
  have at_ := fun {H : Hp} => law_at (H := H) inK G.T.g G.T.b G.T.builtins G.T.nolimit hg hobj (fun es ep z => by cases z) room hF bind
  have fin : ∀ {H : Hp} {F : Addr → Prop}, SG (K w.params) (fun _ => 0) F H [] → RepV (K w.params) mg (fun _ => 0) F H 0 (.ref a) (.scr ns) → spN (K w.params) mg 1 g [.ref a] H (fun v _ => v = .bl true) fun _ _ _ => False := fun {H F} sg r =>
    ⟨rfl, fun _ => 0, F, [.scr ns], [], sg, ⟨r, trivial⟩, by
      rw [e]
      intro φ' F' H' _ v r
      cases r
      rfl⟩
  cases hk : (K w.params).lookup a with
  | some ob =>
    have e1 := inK a ob hk
    rw [hobj] at e1
    cases e1
    refine at_ (H := fun _ => none) (fun b u z => by have z' : (none : Option HO) = some u := z; cases z') (fun b z => absurd rfl z) (fun z => absurd rfl z) (fin (F := fun _ => False) ⟨fun _ z => z.elim, fun i o z => by simp at z, fun i j z => by simp at z⟩ ⟨a, rfl, .inr ⟨_, vs.toArray, _, hk, rfl, rfl, rfl, ?_, by simpa using rv⟩⟩)
    rw [List.size_toArray, hints.length]
    exact Nat.le_trans hlen hn2
  | none =>
    refine at_ (H := scriptH a { cls := .type "list", data := .seq vs.toArray } ns) (fun b u z => ?_) (fun b z => ?_) (fun _ => ⟨hk, _, scriptH_at⟩) (fin (F := fun b => b = a) ⟨fun b z => by rw [show b = a from z, scriptH_at]; simp, fun i o z => by simp at z, fun i j z => by simp at z⟩ ⟨a, rfl, .inl ⟨rfl, _, scriptH_at⟩⟩)
    · by_cases hb : b = a
      · subst hb
        rw [scriptH_at] at z
        cases z
        exact ⟨hobj, by rw [List.length_map]; exact Nat.le_trans hlen hn2, vs, _, rv, hobj⟩
      · rw [show scriptH a _ ns b = none from if_neg hb] at z
        cases z
    · by_cases hb : b = a
      · exact hb
      · exact absurd (if_neg hb) z
structure DefF (K : PySem.W.Frag) (mg : Str → Option Value) (x : Str) (st : Stmt) : Prop where
  ex : ∃ (f : Addr) (oc : Value) (od : Option Addr) (kV doc pm : Value) (an : Option Addr) (cdv ct : Value) (osl : Array (Option Value)), mg x = some (.ref f) ∧
    K.lookup f = some ⟨oc, od, .func (PySem.W.fnOf x x (defArgs st) (defBody st) (defScope st) .none kV doc pm an cdv ct), osl⟩ ∧ PySem.W.codeIn K cdv x = true ∧ PySem.W.keepIn K (.ref f) = true
theorem DefF.mk' {K : PySem.W.Frag} {mg : Str → Option Value} {x : Str} {st : Stmt} {h : Heap} {f : Addr} {oc : Value} {od : Option Addr} {kV doc pm : Value} {an : Option Addr} {cdv ct : Value} {osl : Array (Option Value)} (X : K.In h) (G : h.Ns mainGlobals mg) (a : PySem.W.nsIn K mainGlobals x = some (some (.ref f)))
    (l : K.lookup f = some ⟨oc, od, .func (PySem.W.fnOf x x (defArgs st) (defBody st) (defScope st) .none kV doc pm an cdv ct), osl⟩) (c : PySem.W.codeIn K cdv x = true) (k : PySem.W.keepIn K (.ref f) = true) : DefF K mg x st :=
  ⟨f, oc, od, kV, doc, pm, an, cdv, ct, osl, PySem.W.mg_of X G a, l, c, k⟩
structure ExF (K : PySem.W.Frag) (mg : Str → Option Value) (x : Str) : Prop where
  ex : ∃ C : Addr, mg x = some (.ref C) ∧ PySem.W.excIn K C He.veBase "ValueError.__new__" = true ∧ PySem.W.keepIn K (.ref C) = true ∧ PySem.W.subIn K (.ref C) (.type "BaseException") = some true ∧ PySem.W.typeIn K (.ref C) = some (.type "type")
theorem ExF.mk' {K : PySem.W.Frag} {mg : Str → Option Value} {x : Str} {h : Heap} {C : Addr} (X : K.In h) (G : h.Ns mainGlobals mg) (a : PySem.W.nsIn K mainGlobals x = some (some (.ref C))) (b : PySem.W.excIn K C He.veBase "ValueError.__new__" = true) (c : PySem.W.keepIn K (.ref C) = true)
    (d : PySem.W.subIn K (.ref C) (.type "BaseException") = some true) (e : PySem.W.typeIn K (.ref C) = some (.type "type")) : ExF K mg x := ⟨C, PySem.W.mg_of X G a, b, c, d, e⟩
structure DefOk (P : Program) (w : World) (K : PySem.W.Frag) (mg : Str → Option Value) (base : Heap) (k n : Nat) (x : Str) (g : Fn) : Prop where
  ex : ∃ (f : Addr) (fd : FuncData) (ps : List Str), Fk P w K mg base k f fd ps (spN K mg n g) ∧ mg x = some (.ref f) ∧ PySem.W.keepIn K (.ref f) = true ∧ Binds K fd ps []
section
variable {P : Program} {w : World} {K : PySem.W.Frag} {mg : Str → Option Value} {base : Heap}
theorem def_ok {x : Str} {st : Stmt} {N ps : List Str} {k n : Nat} {b : Sv} (Fu : DefF K mg x st) (Sc : FnScope N ps (defScope st)) (hn : ps.length = n)
    (bi : ∀ (kV doc pm : Value) (an : Option Addr) (cdv ct : Value) (us : List Value), us.length = ps.length → bindArgs (PySem.W.fnOf x x (defArgs st) (defBody st) (defScope st) .none kV doc pm an cdv ct) ⟨us, []⟩ = pure (ps.zip us))
    (body : ∀ (f : Addr) (cdv : Value) (B : Around) (fs : List PySem.Env) (s : Shared) (H : Hp) (E : XK), Cc (cxD P w K mg base N x st f cdv B fs s H E) (wD E) k → DB (cxD P w K mg base N x st f cdv B fs s H E) (wD E) (defBody st) b) :
    DefOk P w K mg base (k + 1) n x (fnOf N.length b) := by
  obtain ⟨f, oc, od, kV, doc, pm, an, cdv, ct, osl, h1, h2, h3, h4⟩ := Fu.ex
  have F := fun_mk (st := st) h2 h3 h4
  subst hn
  exact ⟨f, _, ps, fk_fn F Sc (body f), h1, h4, F.binds bi⟩
end
section
variable {X : Cx} {W : WX} {k j n : Nat} {a b c e : Expr} {es : List Expr} {fs : Av} {g : Fn} {pos p : Pos} {x : Str}
theorem de_callD (G : DefOk X.prog X.w X.K X.mg X.base k n x g) (cc : Cc X W j) (hj : k ≤ j) (hg : Gl X x) (ha : DA X W (e :: es) fs) (hdb : (x == ("__debug__" : Str)) = false := by decide) (he : starEach (e :: es) X.env = (false, eval e X.env) :: starEach es X.env := by rfl)
    (hpl : (backTo pos (starEach es X.env)).any (·.1) = false := by rfl) : DE X W (.Call (.Name x p) (e :: es) [] pos) (eCallN n g fs) := by
  obtain ⟨f, fd, ps, h1, h2, h3, h4⟩ := G.ex
  exact de_call cc h1 hj hg h2 h3 h4 ha hdb he hpl
theorem de_callD0 (G : DefOk X.prog X.w X.K X.mg X.base k n x g) (cc : Cc X W j) (hj : k ≤ j) (hg : Gl X x) (hdb : (x == ("__debug__" : Str)) = false := by decide) : DE X W (.Call (.Name x p) [] [] pos) (eCall0 n g) := by
  obtain ⟨f, fd, ps, h1, h2, h3, h4⟩ := G.ex
  exact de_call0 cc h1 hj hg h2 h3 h4 hdb
theorem pmk0 {C : Addr} {bmB : List Value} {B newId initId : String} (F : ExcBaseFacts B newId initId bmB) (q : PySem.W.excIn X.K C bmB newId = true) (gC : X.mg x = some (.ref C)) (kC : PySem.W.keepIn X.K (.ref C) = true) (r : Raises X (.ref C)) (hg : Gl X x)
    (hdb : (x == ("__debug__" : Str)) = false := by decide) : PMk X (.Call (.Name x p) [] [] pos) (fun _ H Q => Q (.ref C) none H) := by
  intro pins s σ H Q I h
  refine wpAny_Call_Name_kw (ld_glob I hg gC ?_ hdb)
  refine PySem.W.callWith_K0 I.kIn kC ?_
  show wpAny _ _ (call (.ref C) []) _ _ _
  obtain ⟨bm, N, nm, qn, bs, hdct, sn, sub, ab, col, dd, k0, k1, k2, k3, k5, mN, hC, hN, hni, T⟩ := exc_obj I.kIn q
  refine wpAny_call_exc_subT F T hC hN hni (fun h' e hm => ?_) (by show 0 ≤ sizeLine; rw [sizeLine_eq]; omega)
  exact mk_of I hm r h (I.hok.gone hm.new)
theorem ds_raise0 {pos2 : Pos} (cc : Cc X W j) (Ex : ExF X.K X.mg x) (hg : Gl X x) (hdb : (x == ("__debug__" : Str)) = false := by decide) : DS X W (.Raise (some (.Call (.Name x p) [] [] pos)) none pos2) (sRaise x) := by
  obtain ⟨C, h1, h2, h3, h4, h5⟩ := Ex.ex
  exact ds_raise cc h1 (pmk0 PySem.F.excBase_ValueError h2 h1 h3 (raises_own h4 h5) hg hdb)
end
theorem walk_def {l : PySem.W.OpenLaw} {n k : Nat} {q : Program} {loose : List Str} {XP : (Str → Option Value) → Heap → Prop} {YP : World → Heap → Prop} {d : DefRec} {K : Params → PySem.W.Frag} {st : Stmt} {x : Str} {g : Fn}
    (hn : l.most = some n) (hn2 : n ≤ sizeLine) (noDef : d.params.defaults = []) (room : Room k callerA) (hY : ∀ (w : World) (h : Heap), YP w h → (K w.params).In h)
    (F : ∀ (w : World) (mg : Str → Option Value) (fa : Addr) (h : Heap), (K w.params).In h → h.Ns mainGlobals mg → mg d.name = some (.ref fa) → ∃ fd : FuncData, (∀ (s : Shared) (u : Value), BindsTo s fd ⟨[u], []⟩ [(x, u)]) ∧
        ∀ base : Heap, (K w.params).In base → base.Ns mainGlobals mg → Fk l.prog w (K w.params) mg base k fa fd [x] (spN (K w.params) mg 1 g))
    (law : ∀ ns : List Int, ns.length ≤ n → ∃ S, g [.scr ns] [] = .ok (.d (.bool true)) S) : PySem.W.WalkO q loose XP YP l.row.toRowW d [] (fun f vs => PySem.call f vs) := walk_fk hn hn2 noDef room hY F law
theorem Cc.hu {X : Cx} {W : WX} {k : Nat} (c : Cc X W k) : X.A.units + 64 < cLine := by
  have := c.rm.units
  omega
structure IntF (mg : Str → Option Value) (x : Str) (i : Int) : Prop where
  ex : ∃ t, mg x = some (.int i t)
structure StrF (mg : Str → Option Value) (x : Str) (z : Str) : Prop where
  ex : ∃ t, mg x = some (.str z t)
section
variable {K : PySem.W.Frag} {mg : Str → Option Value} {h : Heap} {x : Str}
theorem IntF.mk' {i : Int} {t : Tok} (X : K.In h) (G : h.Ns mainGlobals mg) (a : PySem.W.nsIn K mainGlobals x = some (some (.int i t))) : IntF mg x i := ⟨t, PySem.W.mg_of X G a⟩
theorem StrF.mk' {i : Str} {t : Tok} (X : K.In h) (G : h.Ns mainGlobals mg) (a : PySem.W.nsIn K mainGlobals x = some (some (.str i t))) : StrF mg x i := ⟨t, PySem.W.mg_of X G a⟩
end
theorem de_conI {X : Cx} {W : WX} {x : Str} {i : Int} {pos : Pos} (C : IntF X.mg x i) (hg : Gl X x) (hd : (x == ("__debug__" : Str)) = false := by decide) : DE X W (.Name x pos) (eD (.int i)) := by
  obtain ⟨t, e⟩ := C.ex
  exact de_con (v := .int i) hg e ⟨t, rfl⟩ (fun _ _ => .int i) hd
theorem de_conS {X : Cx} {W : WX} {x : Str} {i : Str} {pos : Pos} (C : StrF X.mg x i) (hg : Gl X x) (hd : (x == ("__debug__" : Str)) = false := by decide) : DE X W (.Name x pos) (eD (.str i)) := by
  obtain ⟨t, e⟩ := C.ex
  exact de_con (v := .str i) hg e ⟨t, rfl⟩ (fun _ _ => .str i) hd
theorem law_end {P : Program} {w : World} {K : PySem.W.Frag} {mg : Str → Option Value} {st : Stmt} {N : List Str} {fa : Addr} {x : Str} {k : Nat} {b : Sv} {p : Str} (Fu : DefF K mg x st) (hfa : mg x = some (.ref fa)) (Sc : FnScope N [p] (defScope st))
    (bi : ∀ (kV doc pm : Value) (an : Option Addr) (cdv ct : Value) (s : Shared) (v : Value), BindsTo s (PySem.W.fnOf x x (defArgs st) (defBody st) (defScope st) .none kV doc pm an cdv ct) ⟨[v], []⟩ [(p, v)])
    (body : ∀ (base : Heap) (f : Addr) (cdv : Value) (B : Around) (fs : List PySem.Env) (s : Shared) (H : Hp) (E : XK), Cc (cxD P w K mg base N x st f cdv B fs s H E) (wD E) k → DB (cxD P w K mg base N x st f cdv B fs s H E) (wD E) (defBody st) b) :
    ∃ fd : FuncData, (∀ (s : Shared) (u : Value), BindsTo s fd ⟨[u], []⟩ [(p, u)]) ∧ ∀ base : Heap, K.In base → base.Ns mainGlobals mg → Fk P w K mg base (k + 1) fa fd [p] (spN K mg 1 (fnOf N.length b)) := by
  obtain ⟨f, oc, od, kV, doc, pm, an, cdv, ct, osl, h1, h2, h3, h4⟩ := Fu.ex
  have e := hfa.symm.trans h1
  cases e
  exact ⟨_, bi kV doc pm an cdv ct, fun base _ _ => fk_fn (fun_mk (st := st) h2 h3 h4) Sc (body base fa)⟩
theorem bb_len : bootBuiltins "len" = some (.builtin "len") := by decide +kernel
theorem bb_abs : bootBuiltins "abs" = some (.builtin "abs") := by decide +kernel
theorem bb_all : bootBuiltins "all" = some (.builtin "all") := by decide +kernel
theorem bb_any : bootBuiltins "any" = some (.builtin "any") := by decide +kernel
theorem bb_min : bootBuiltins "min" = some (.builtin "min") := by decide +kernel
theorem bb_max : bootBuiltins "max" = some (.builtin "max") := by decide +kernel
theorem bb_sum : bootBuiltins "sum" = some (.builtin "sum") := by decide +kernel
theorem bb_sorted : bootBuiltins "sorted" = some (.builtin "sorted") := by decide +kernel
theorem bb_repr : bootBuiltins "repr" = some (.builtin "repr") := by decide +kernel
theorem bb_isinstance : bootBuiltins "isinstance" = some (.builtin "isinstance") := by decide +kernel
theorem bb_enumerate : bootBuiltins "enumerate" = some (.type "enumerate") := by decide +kernel
theorem bb_zip : bootBuiltins "zip" = some (.type "zip") := by decide +kernel
theorem bb_range : bootBuiltins "range" = some (.type "range") := by decide +kernel
theorem bb_int : bootBuiltins "int" = some (.type "int") := by decide +kernel
theorem bb_bool : bootBuiltins "bool" = some (.type "bool") := by decide +kernel
theorem bb_str : bootBuiltins "str" = some (.type "str") := by decide +kernel
theorem bb_list : bootBuiltins "list" = some (.type "list") := by decide +kernel
theorem bb_tuple : bootBuiltins "tuple" = some (.type "tuple") := by decide +kernel
theorem bb_dict : bootBuiltins "dict" = some (.type "dict") := by decide +kernel
theorem bb_set : bootBuiltins "set" = some (.type "set") := by decide +kernel
section
variable {ρ : Env} {S : Store} {i n : Nat} {m : Bool} {fa fb fc f g : Ev} {ga gb t : Tv} {fs : Av} {o o' : Vl → Vl → Store → Res Vl} {u : Vl → Store → Res Vl} {k : Fn} {sa sb : Sv} {it : Iv} {tg : Tg}
@[simp] theorem ap_eVar : eVar i ρ S = match ρ[i]? with
  | some (some v) => .ok v S
  | _ => .bad := rfl
@[simp] theorem ap_eD {x : D} : eD x ρ S = .ok (.d x) S := rfl
@[simp] theorem ap_eTy {x : Ty} : eTy x ρ S = .ok (.ty x) S := rfl
@[simp] theorem ap_eGlo {x : Str} : eGlo x ρ S = .ok (.glo x) S := rfl
@[simp] theorem ap_eBin : eBin o fa fb ρ S = (fa ρ S).bind fun a S1 => (fb ρ S1).bind fun b S2 => o a b S2 := rfl
@[simp] theorem ap_eUn : eUn u fa ρ S = (fa ρ S).bind fun a S1 => u a S1 := rfl
@[simp] theorem ap_aNil : aNil ρ S = .ok [] S := rfl
@[simp] theorem ap_aCons : aCons f fs ρ S = (f ρ S).bind fun v S1 => (fs ρ S1).bind fun vs S2 => .ok (v :: vs) S2 := rfl
@[simp] theorem ap_eFrz : eFrz f ρ S = (f ρ S).bind fun v S1 => (fr v S1).bind fun d S2 => .ok (.d d) S2 := rfl
@[simp] theorem ap_eTup : eTup fs ρ S = (fs ρ S).bind fun vs S1 => (frs vs S1).bind fun ds S2 => if ds.length ≤ 1000 then .ok (.d (.tuple ds)) S2 else .bad := rfl
@[simp] theorem ap_eLst : eLst m fs ρ S = (fs ρ S).bind fun vs S1 => (frs vs S1).bind fun ds S2 => if ds.length ≤ 1000 then mkL m ds S2 else .bad := rfl
@[simp] theorem ap_eCall : eCall k fs ρ S = (fs ρ S).bind fun vs S1 => k vs S1 := rfl
@[simp] theorem ap_eCallN : eCallN n k fs ρ S = (fs ρ S).bind fun vs S1 => if vs.length = n then k vs S1 else .bad := rfl
@[simp] theorem ap_eCall0 : eCall0 n k ρ S = if n = 0 then k [] S else .bad := rfl
@[simp] theorem ap_eIf : eIf t fa fb ρ S = (t ρ S).bind fun b S1 => if b = true then fa ρ S1 else fb ρ S1 := rfl
@[simp] theorem ap_eAnd : eAnd fa fb ρ S = (fa ρ S).bind fun v S1 => match v with
  | .d (.bool c) => if c = true then fb ρ S1 else .ok (.d (.bool false)) S1
  | _ => .bad := rfl
@[simp] theorem ap_eOr : eOr fa fb ρ S = (fa ρ S).bind fun v S1 => match v with
  | .d (.bool c) => if c = true then .ok (.d (.bool true)) S1 else fb ρ S1
  | _ => .bad := rfl
@[simp] theorem ap_eNot : eNot fa ρ S = (fa ρ S).bind fun v S1 => match v with
  | .d (.bool c) => .ok (.d (.bool !c)) S1
  | _ => .bad := rfl
@[simp] theorem ap_tOf : tOf f ρ S = (f ρ S).bind fun v S1 => match v with
  | .d (.bool c) => .ok c S1
  | _ => .bad := rfl
@[simp] theorem ap_tAnd : tAnd ga gb ρ S = (ga ρ S).bind fun c S1 => if c = true then gb ρ S1 else .ok false S1 := rfl
@[simp] theorem ap_tOr : tOr ga gb ρ S = (ga ρ S).bind fun c S1 => if c = true then .ok true S1 else gb ρ S1 := rfl
@[simp] theorem ap_tNot : tNot ga ρ S = (ga ρ S).bind fun c S1 => .ok (!c) S1 := rfl
@[simp] theorem ap_tYesD : tYesD ρ S = .ok true S := rfl
@[simp] theorem ap_eChain : eChain o o' fa fb fc ρ S = (fa ρ S).bind fun a S1 => (fb ρ S1).bind fun b S2 => (o a b S2).bind fun z S3 => match z with
  | .d (.bool k) => if k = true then (fc ρ S3).bind fun c S4 => o' b c S4 else .ok (.d (.bool false)) S3
  | _ => .bad := rfl
@[simp] theorem ap_pNo : pNo ρ S = .ok none S := rfl
@[simp] theorem ap_pAt : pAt f ρ S = (f ρ S).bind fun v S1 => match view S1 v with
  | some (.int i) => .ok (some i) S1
  | _ => .bad := rfl
@[simp] theorem ap_eSl {l h : Pv} : eSl m f l h ρ S = (f ρ S).bind fun v S1 => (l ρ S1).bind fun l S2 => (h ρ S2).bind fun h S3 => slV m v l h S3 := rfl
@[simp] theorem ap_eLc {vs : List Nat} : eLc m it tg t f vs ρ S = (it ρ S).bind fun ds S1 => (lcL tg t f (wipeE ρ vs) ds [] S1).bind fun acc S2 => mkL m acc S2 := rfl
@[simp] theorem ap_iSeq : iSeq f ρ S = (f ρ S).bind fun v S1 => (fr v S1).bind fun d S2 => match seqOf d with
  | some ds => .ok ds S2
  | none => .bad := rfl
@[simp] theorem ap_sNil : sNil ρ S = .nx ρ S := rfl
@[simp] theorem ap_sCons : sCons sa sb ρ S = (sa ρ S).seq sb := rfl
@[simp] theorem ap_sExpr : sExpr f ρ S = (f ρ S).st ρ fun _ S1 => .nx ρ S1 := rfl
@[simp] theorem ap_sAsg : sAsg tg f ρ S = (f ρ S).st ρ fun v S1 => match tg v ρ with
  | some ρ1 => .nx ρ1 S1
  | none => .bad := rfl
@[simp] theorem ap_sSet : sSet i f ρ S = (f ρ S).st ρ fun v S1 => .nx (ρ.set i (some v)) S1 := rfl
@[simp] theorem ap_sPar {gs : List Tg} : sPar gs fs ρ S = (fs ρ S).st ρ fun vs S1 => match gAll gs vs ρ with
  | some ρ1 => .nx ρ1 S1
  | none => .bad := rfl
@[simp] theorem ap_sRet : sRet f ρ S = (f ρ S).st ρ fun v S1 => .ret v S1 := rfl
@[simp] theorem ap_sRetN : sRetN ρ S = .ret (.d .none) S := rfl
@[simp] theorem ap_sIf : sIf t sa sb ρ S = (t ρ S).st ρ fun x S1 => if x = true then sa ρ S1 else sb ρ S1 := rfl
@[simp] theorem ap_sPut : sPut fa fb fc ρ S = (fc ρ S).st ρ fun v S1 => (fr v S1).st ρ fun d S2 => (fa ρ S2).st ρ fun o S3 => (fb ρ S3).st ρ fun i S4 => match o, view S4 i with
  | .loc n, some (.int k) => match S4[n]? with
    | some (.lst xs) => match ixN xs.length k with
      | some j => .nx ρ (S4.set n (.lst (xs.set j d)))
      | none => .bad
    | _ => .bad
  | _, _ => .bad := rfl
@[simp] theorem ap_sBreak : sBreak ρ S = .bk ρ S := rfl
@[simp] theorem ap_sCont : sCont ρ S = .ct ρ S := rfl
@[simp] theorem ap_sFor : sFor it tg sb ρ S = (it ρ S).st ρ fun xs S1 => forL tg sb xs ρ S1 := rfl
@[simp] theorem ap_sRaise {x : Str} : sRaise x ρ S = .ex ⟨x, []⟩ ρ S := rfl
@[simp] theorem ap_gN {v : Vl} : gN i v ρ = some (ρ.set i (some v)) := rfl
@[simp] theorem ap_gAll0 : gAll [] [] ρ = some ρ := rfl
@[simp] theorem ap_gAll1 {gs : List Tg} {v : Vl} {vs : List Vl} : gAll (tg :: gs) (v :: vs) ρ = match tg v ρ with
  | some ρ1 => gAll gs vs ρ1
  | none => none := rfl
@[simp] theorem ap_gT {gs : List Tg} {ds : List D} : gT gs (.d (.tuple ds)) ρ = gAll gs (ds.map Vl.d) ρ := rfl
@[simp] theorem ap_mkF {ds : List D} : mkL false ds S = .ok (.d (.list ds)) S := rfl
@[simp] theorem ap_mkT {ds : List D} : mkL true ds S = .ok (.loc S.length) (S ++ [.lst ds]) := rfl
@[simp] theorem ap_forL0 : forL tg sb [] ρ S = .nx ρ S := rfl
theorem ap_forL1 {x : D} {xs : List D} : forL tg sb (x :: xs) ρ S = match tg (.d x) ρ with
    | none => .bad
    | some ρ1 => match sb ρ1 S with
      | .nx ρ2 S2 => forL tg sb xs ρ2 S2
      | .ct ρ2 S2 => forL tg sb xs ρ2 S2
      | .bk ρ2 S2 => .nx ρ2 S2
      | r => r := rfl
@[simp] theorem ap_lcL0 {acc : List D} : lcL tg t f ρ [] acc S = .ok acc S := rfl
theorem ap_fnOf {vs : List Vl} : fnOf n sb vs S = match sb (vs.map some ++ List.replicate (n - vs.length) none) S with
  | .ret v S1 => leave S.length v S1
  | .nx _ S1 => .ok (.d .none) (S1.take S.length)
  | .ex e _ S1 => .ex e (S1.take S.length)
  | _ => .bad := rfl
@[simp] theorem ap_leave {x : D} : leave n (.d x) S = .ok (.d x) (S.take n) := rfl
@[simp] theorem shal_int {i : Int} : shal (.int i) = true := rfl
@[simp] theorem shal_bool {b : Bool} : shal (.bool b) = true := rfl
@[simp] theorem shal_none : shal .none = true := rfl
@[simp] theorem shal_str {z : Str} : shal (.str z) = true := rfl
end
theorem forL_inv {tg : Tg} {sb : Sv} (I : List D → Env → Store → Prop) (step : ∀ x xs ρ S, I (x :: xs) ρ S → ∃ ρ1 ρ2 S2, tg (.d x) ρ = some ρ1 ∧ (sb ρ1 S = .nx ρ2 S2 ∨ sb ρ1 S = .ct ρ2 S2) ∧ I xs ρ2 S2) :
    ∀ xs ρ S, I xs ρ S → ∃ ρ2 S2, forL tg sb xs ρ S = .nx ρ2 S2 ∧ I [] ρ2 S2
  | [], ρ, S, h => ⟨ρ, S, rfl, h⟩
  | x :: xs, ρ, S, h => by
    obtain ⟨ρ1, ρ2, S2, e1, e2, h2⟩ := step x xs ρ S h
    obtain ⟨ρ3, S3, e3, h3⟩ := forL_inv I step xs ρ2 S2 h2
    refine ⟨ρ3, S3, ?_, h3⟩
    rw [ap_forL1, e1]
    rcases e2 with e2 | e2 <;> simp only [e2] <;> exact e3
theorem lcL_all {tg : Tg} {f : Ev} {ρ : Env} (g : D → D) {S : Store} : ∀ (xs acc : List D), (∀ x ∈ xs, ∃ ρ1, tg (.d x) ρ = some ρ1 ∧ f ρ1 S = .ok (.d (g x)) S) → acc.length + xs.length ≤ 1000 → lcL tg tYesD f ρ xs acc S = .ok (acc ++ xs.map g) S
  | [], acc, _, _ => by simp
  | x :: xs, acc, h, hl => by
    obtain ⟨ρ1, e1, e2⟩ := h x (by simp)
    have hl' : acc.length + (xs.length + 1) ≤ 1000 := hl
    have ih := lcL_all g (S := S) xs (acc ++ [g x]) (fun y hy => h y (by simp [hy])) (by simp; omega)
    have hs : acc.length < sizeLine := Nat.lt_of_lt_of_le (by omega) (line1000 (Nat.le_refl 1000))
    unfold lcL
    simp only [e1, ap_tYesD, noX_ok, bind_ok, if_true, e2, fr_d, hs]
    rw [ih]
    simp
section
variable {S : Store} {m neg : Bool} {i j : Int} {xs : List D} {x y z u v w : D} {a b : Bool}
@[simp] theorem oAdd_int : oAdd m (.d (.int i)) (.d (.int j)) S = .ok (.d (.int (i + j))) S := rfl
@[simp] theorem oSub_int : oSub (.d (.int i)) (.d (.int j)) S = .ok (.d (.int (i - j))) S := rfl
theorem oMul_int (h : mulOk i j = true) : oMul m (.d (.int i)) (.d (.int j)) S = .ok (.d (.int (i * j))) S := by simp [oMul, h]
theorem oDiv_int (h : 0 < j) (h2 : j < 2 ^ 4000) : oDiv (.d (.int i)) (.d (.int j)) S = .ok (.d (.int (i / j))) S := by simp only [oDiv, view_d, h, h2, and_self, if_true]
theorem oMod_int (h : 0 < j) : oMod (.d (.int i)) (.d (.int j)) S = .ok (.d (.int (i % j))) S := by simp only [oMod, view_d, h, if_true]
@[simp] theorem oNeg_int : oNeg (.d (.int i)) S = .ok (.d (.int (-i))) S := rfl
@[simp] theorem oLt_int : oLt (.d (.int i)) (.d (.int j)) S = .ok (.d (.bool (decide (i < j)))) S := rfl
@[simp] theorem oGt_int : oGt (.d (.int i)) (.d (.int j)) S = .ok (.d (.bool (decide (j < i)))) S := rfl
@[simp] theorem oLe_int : oLe (.d (.int i)) (.d (.int j)) S = .ok (.d (.bool (decide (i ≤ j)))) S := rfl
@[simp] theorem oGe_int : oGe (.d (.int i)) (.d (.int j)) S = .ok (.d (.bool (decide (j ≤ i)))) S := rfl
@[simp] theorem eqv_int : PyData.eqv (.int i) (.int j) = decide (i = j) := by
  rw [Bool.eq_iff_iff]
  simp [PyData.eqv]
@[simp] theorem eqv_bool : PyData.eqv (.bool a) (.bool b) = decide (a = b) := by cases a <;> cases b <;> simp [PyData.eqv]
@[simp] theorem oEq_int : oEq (.d (.int i)) (.d (.int j)) S = .ok (.d (.bool (decide (i = j)))) S := by simp [oEq]
@[simp] theorem oNe_int : oNe (.d (.int i)) (.d (.int j)) S = .ok (.d (.bool (!decide (i = j)))) S := by simp [oNe]
@[simp] theorem oEq_bool : oEq (.d (.bool a)) (.d (.bool b)) S = .ok (.d (.bool (decide (a = b)))) S := by simp [oEq]
@[simp] theorem oNe_bool : oNe (.d (.bool a)) (.d (.bool b)) S = .ok (.d (.bool (!decide (a = b)))) S := by simp [oNe]
@[simp] theorem oIs_bool : oIs neg (.d (.bool a)) (.d (.bool b)) S = .ok (.d (.bool (if neg = true then !decide (a = b) else decide (a = b)))) S := rfl
@[simp] theorem fInt_int : fInt [.d (.int i)] S = .ok (.d (.int i)) S := rfl
@[simp] theorem fInt_bool : fInt [.d (.bool a)] S = .ok (.d (.int (if a then 1 else 0))) S := rfl
@[simp] theorem fAbs_int : fAbs [.d (.int i)] S = .ok (.d (.int (i.natAbs : Int))) S := by
  simp only [fAbs, view_d]
  split <;> first | rfl | skip
  all_goals simp_all
  all_goals omega
@[simp] theorem fMax2_int : fMax2 [.d (.int i), .d (.int j)] S = .ok (.d (.int (max i j))) S := by
  simp only [fMax2, view_d]
  congr 3
  omega
@[simp] theorem fMin2_int : fMin2 [.d (.int i), .d (.int j)] S = .ok (.d (.int (min i j))) S := by
  simp only [fMin2, view_d]
  congr 3
  omega
@[simp] theorem fLen_list : fLen [.d (.list xs)] S = .ok (.d (.int xs.length)) S := rfl
@[simp] theorem fLen_tuple : fLen [.d (.tuple xs)] S = .ok (.d (.int xs.length)) S := rfl
theorem atI_nat {α : Type} {xs : List α} {n : Nat} : atI xs (n : Int) = xs[n]? := by
  cases h : xs[n]? with
  | some x => exact L2.atI_nat h
  | none =>
    unfold atI ixN
    have : xs.length ≤ n := by simpa using h
    have h2 : ¬ (n < xs.length) := by omega
    simp [h2]
@[simp] theorem atI_0 {α : Type} {x : α} {xs : List α} : atI (x :: xs) 0 = some x := atI_nat (n := 0)
@[simp] theorem atI_1 {α : Type} {x y : α} {xs : List α} : atI (x :: y :: xs) 1 = some y := atI_nat (n := 1)
@[simp] theorem atI_2 {α : Type} {x y z : α} {xs : List α} : atI (x :: y :: z :: xs) 2 = some z := atI_nat (n := 2)
@[simp] theorem atI_3 {α : Type} {x y z u : α} {xs : List α} : atI (x :: y :: z :: u :: xs) 3 = some u := atI_nat (n := 3)
@[simp] theorem atI_4 {α : Type} {x y z u v : α} {xs : List α} : atI (x :: y :: z :: u :: v :: xs) 4 = some v := atI_nat (n := 4)
@[simp] theorem oIx_list : oIx (.d (.list xs)) (.d (.int i)) S = oPost (atI xs i) S := rfl
@[simp] theorem oIx_tuple : oIx (.d (.tuple xs)) (.d (.int i)) S = oPost (atI xs i) S := rfl
@[simp] theorem oPost_some {d : D} : oPost (some d) S = .ok (.d d) S := rfl
theorem oIx_loc {n : Nat} (h : S[n]? = some (.lst xs)) : oIx (.loc n) (.d (.int i)) S = oPost (atI xs i) S := by simp [oIx, view, h]
end
theorem mulOk_l {i j : Int} (h : i.natAbs < 2 ^ 64) : mulOk i j = true := by simp [mulOk, h]
theorem mulOk_r {i j : Int} (h : j.natAbs < 2 ^ 64) : mulOk i j = true := by simp [mulOk, h]
theorem mulOk_w {i j : Int} (h : i.natAbs < 2 ^ 4000) (h2 : j.natAbs < 2 ^ 4000) : mulOk i j = true := by unfold mulOk; rw [decide_eq_true h, decide_eq_true h2]; simp
def Bd (n : Nat) (i : Int) : Prop := i.natAbs < 2 ^ n
theorem Bd.mono {n m : Nat} {i : Int} (h : Bd n i) (hm : n ≤ m) : Bd m i := Nat.lt_of_lt_of_le h (Nat.pow_le_pow_right (by decide) hm)
theorem Bd.mul {n m : Nat} {i j : Int} (h : Bd n i) (h2 : Bd m j) : Bd (n + m) (i * j) := by
  unfold Bd at *
  rw [Int.natAbs_mul, Nat.pow_add]
  exact Nat.mul_lt_mul'' h h2
theorem Bd.add {n : Nat} {i j : Int} (h : Bd n i) (h2 : Bd n j) : Bd (n + 1) (i + j) := by
  unfold Bd at *
  rw [Nat.pow_succ]
  omega
theorem Bd.sub {n : Nat} {i j : Int} (h : Bd n i) (h2 : Bd n j) : Bd (n + 1) (i - j) := by
  unfold Bd at *
  rw [Nat.pow_succ]
  omega
theorem Bd.ok {n m : Nat} {i j : Int} (h : Bd n i) (h2 : Bd m j) (hn : n ≤ 4000) (hm : m ≤ 4000) : mulOk i j = true := mulOk_w (h.mono hn) (h2.mono hm)
theorem Bd.lt {n : Nat} {i : Int} (h : Bd n i) (hn : n ≤ 4000) : i < 2 ^ 4000 := by
  have q : i.natAbs < 2 ^ 4000 := h.mono hn
  have e : ((2 ^ 4000 : Nat) : Int) = 2 ^ 4000 := by norm_cast
  rw [← e]
  omega
theorem Bd.of {n : Nat} {i : Int} (h : i.natAbs < 2 ^ n) : Bd n i := h
def hand (cs : List Int) (p z s n : Int) : MO := .lst [.list (cs.map .int), .int p, .int z, .int s, .int n]
structure HandOk (cs : List Int) (p z s n : Int) : Prop where
  cs : ∀ c ∈ cs, 0 ≤ c
  p : 0 ≤ p
  z : 0 ≤ z
  s : 0 ≤ s
  n : 0 ≤ n
def Hand (S : Store) : Prop := ∃ cs p z s n, HandOk cs p z s n ∧ S = [hand cs p z s n]
def DrawOk (g : Fn) : Prop := ∀ (size : Int) (S : Store), 0 < size → size < 2 ^ 62 → Hand S → ∃ r S', 0 ≤ r ∧ r < size ∧ Hand S' ∧ g [.loc 0, .d (.int size)] S = .ok (.d (.int r)) S'
def absD : D → D
  | .int i => .int (i.natAbs : Int)
  | d => d
theorem cut63 {ns : List Int} (h : ns.length ≤ 63) : cutD (ns.map PyData.int) none (some 63) = ns.map PyData.int := by
  apply cutD_whole
  rw [HT.sIx_none, show HT.sIx (ns.map PyData.int).length (ns.map PyData.int).length (some 63) = min 63 (ns.map PyData.int).length from HT.sIx_nat _ _ 63]
  refine ⟨rfl, ?_⟩
  rw [List.length_map]
  omega
structure Rp (n k : Nat) (d : D) : Prop where
  pl : d.plain = true
  dp : d.depth ≤ k
  sh : d.showable = true
  len : d.shown.length ≤ n
theorem Rp.mono {n m k j : Nat} {d : D} (h : Rp n k d) (h1 : n ≤ m) (h2 : k ≤ j) : Rp m j d := ⟨h.pl, Nat.le_trans h.dp h2, h.sh, Nat.le_trans h.len h1⟩
theorem rp_none : Rp 4 0 .none := ⟨rfl, Nat.le_refl _, rfl, Nat.le_refl _⟩
theorem rp_bool (b : Bool) : Rp 5 0 (.bool b) := ⟨rfl, Nat.le_refl _, rfl, by cases b <;> decide⟩
theorem rp_int {i : Int} (h : Bd 1900 i) : Rp 1921 0 (.int i) := by
  have hl : i.natAbs.log2 < 1920 := by
    have : i.natAbs.log2 ≤ 1900 := log2_lt h
    omega
  exact ⟨rfl, Nat.le_refl _, by simp only [PyData.showable, decide_eq_true_eq]; exact hl, PyProof.Rows.int_text_len_1921 hl⟩
theorem rps_pl {n k : Nat} : ∀ {ds : List D}, (∀ d ∈ ds, Rp n k d) → PyData.plainAll ds = true ∧ PyData.depthAll ds ≤ k ∧ PyData.showableAll ds = true ∧ ((PyData.shownAll ds).map (·.length)).sum ≤ n * ds.length ∧ (PyData.shownAll ds).length = ds.length
  | [], _ => by simp [PyData.plainAll, PyData.depthAll, PyData.showableAll, PyData.shownAll]
  | d :: ds, h => by
    have h1 := h d (by simp)
    obtain ⟨a, b, c, e, f⟩ := rps_pl (ds := ds) fun x hx => h x (by simp [hx])
    refine ⟨by simp [PyData.plainAll, h1.pl, a], ?_, by simp [PyData.showableAll, h1.sh, c], ?_, by simp [PyData.shownAll, f]⟩
    · simp only [PyData.depthAll]
      exact Nat.max_le.mpr ⟨h1.dp, b⟩
    · simp only [PyData.shownAll, List.map_cons, List.sum_cons, List.length_cons, Nat.mul_add, Nat.mul_one]
      have := h1.len
      omega
theorem rp_list {n k : Nat} {ds : List D} (h : ∀ d ∈ ds, Rp n k d) : Rp ((n + 2) * ds.length + 3) (k + 1) (.list ds) := by
  obtain ⟨a, b, c, e, f⟩ := rps_pl h
  refine ⟨by simp [PyData.plain, a], by simp only [PyData.depth]; omega, by simp [PyData.showable, c], ?_⟩
  have := listText_len_le (PyData.shownAll ds)
  simp only [PyData.shown, Nat.add_mul]
  omega
theorem rp_tup {n k : Nat} {ds : List D} (h : ∀ d ∈ ds, Rp n k d) : Rp ((n + 2) * ds.length + 3) (k + 1) (.tuple ds) := by
  obtain ⟨a, b, c, e, f⟩ := rps_pl h
  refine ⟨by simp [PyData.plain, a], by simp only [PyData.depth]; omega, by simp [PyData.showable, c], ?_⟩
  have := tupleText_len_le (PyData.shownAll ds)
  simp only [PyData.shown, Nat.add_mul]
  omega
theorem Rp.shal {n k : Nat} {d : D} (h : Rp n k d) (hk : k ≤ 60) : shal d = true := by
  have := h.dp
  simp only [Dl.shal, h.pl, Bool.true_and, decide_eq_true_eq]
  omega
theorem rp_repr {n k : Nat} {d : D} {S : Store} (h : Rp n k d) (hn : n ≤ 16777216) (hk : k ≤ 60) : fRepr [.d d] S = .ok (.d (.str d.shown)) S := by
  have h1 : d.shown.length ≤ sizeLine := Nat.le_trans h.len (Nat.le_trans hn (by decide))
  simp [fRepr, h.shal hk, h.sh, h1]
theorem eqv_str {x y : Str} : PyData.eqv (.str x) (.str y) = decide (x = y) := by
  rw [Bool.eq_iff_iff]
  simp [PyData.eqv]
@[simp] theorem oEq_str {x y : Str} {S : Store} : oEq (.d (.str x)) (.d (.str y)) S = .ok (.d (.bool (decide (x = y)))) S := by simp [oEq, eqv_str]
@[simp] theorem oNe_str {x y : Str} {S : Store} : oNe (.d (.str x)) (.d (.str y)) S = .ok (.d (.bool (!decide (x = y)))) S := by simp [oNe, eqv_str]
mutual
theorem eqv_refl : ∀ d : D, d.plain = true → PyData.eqv d d = true
  | .none, _ => by simp [PyData.eqv]
  | .bool b, _ => by cases b <;> simp [PyData.eqv]
  | .int _, _ => by simp [PyData.eqv]
  | .str _, _ => by simp [PyData.eqv]
  | .list xs, h => by
    simp only [PyData.eqv]
    exact eqvs_refl xs (by simpa [PyData.plain] using h)
  | .tuple xs, h => by
    simp only [PyData.eqv]
    exact eqvs_refl xs (by simpa [PyData.plain] using h)
  | .dict _, h => by simp [PyData.plain] at h
theorem eqvs_refl : ∀ ds : List D, PyData.plainAll ds = true → PyData.eqvAll ds ds = true
  | [], _ => by simp [PyData.eqvAll]
  | x :: xs, h => by
    have h2 : x.plain = true ∧ PyData.plainAll xs = true := by simpa [PyData.plainAll] using h
    simp [PyData.eqvAll, eqv_refl x h2.1, eqvs_refl xs h2.2]
end
def dq (q : Rat) : D := .tuple [.int q.num, .int q.den]
theorem dq_of {a b : Int} (h : 0 < b) : PyData.tuple [.int (a / Int.gcd a b), .int (b / Int.gcd a b)] = dq (Rat.divInt a b) := by
  have e1 : (Rat.divInt a b).num = a / Int.gcd a b := by rw [Rat.num_divInt, Int.sign_eq_one_of_pos h, Int.one_mul, Int.gcd_comm]
  have e2 : ((Rat.divInt a b).den : Int) = b / Int.gcd a b := by
    rw [Rat.den_divInt, if_neg (by omega), Int.gcd_comm, Int.natCast_ediv, Int.natAbs_of_nonneg (by omega), Int.gcd_comm]
  unfold dq
  rw [e1, e2]
theorem gcd_mod (a b : Int) : Int.gcd b (a % b) = Int.gcd a b := by
  rw [Int.emod_def, Int.gcd_sub_mul_left_right, Int.gcd_comm]
structure Qs (n : Nat) (q : Rat) : Prop where
  num : Bd n q.num
  den : Bd n q.den
theorem Qs.mono {n m : Nat} {q : Rat} (h : Qs n q) (hm : n ≤ m) : Qs m q := ⟨h.num.mono hm, h.den.mono hm⟩
theorem Qs.div {n : Nat} {a b : Int} (ha : Bd n a) (hb : Bd n b) (h : 0 < b) : Qs n (Rat.divInt a b) := by
  constructor
  · rw [Rat.num_divInt, Int.sign_eq_one_of_pos h, Int.one_mul]
    exact Nat.lt_of_le_of_lt (Int.natAbs_ediv_le_natAbs a _) ha
  · rw [Rat.den_divInt, if_neg (by omega)]
    exact Nat.lt_of_le_of_lt (by simp; exact Nat.div_le_self _ _) hb
theorem Qs.rp {n : Nat} {q : Rat} (h : Qs n q) (hn : n ≤ 1900) : Rp 3849 1 (dq q) := rp_tup (n := 1921) (k := 0) (ds := [.int q.num, .int q.den]) fun d hd => by
  simp only [List.mem_cons, List.not_mem_nil, or_false] at hd
  rcases hd with rfl | rfl
  · exact rp_int (h.num.mono hn)
  · exact rp_int (h.den.mono hn)
theorem q_of (x : Rat) : Rat.divInt x.num x.den = x := by simp
theorem den_pos (x : Rat) : (0 : Int) < x.den := by have := x.den_pos; omega
theorem eqv_dq {x y : Rat} : PyData.eqv (dq x) (dq y) = decide (x = y) := by
  rw [Bool.eq_iff_iff]
  simp only [dq, PyData.eqv, PyData.eqvAll, Bool.and_true, decide_eq_true_eq]
  constructor
  · intro h
    simp at h
    exact Rat.ext h.1 (by exact_mod_cast h.2)
  · rintro rfl
    simp
instance {n : Nat} {i : Int} : Decidable (Bd n i) := inferInstanceAs (Decidable (_ < _))
theorem dq_01 : PyData.tuple [.int 0, .int 1] = dq 0 := by simp [dq]
theorem q_sub0 (x : Rat) : x - 0 = x := by grind
theorem num_den (x : Rat) : (x.num : Rat) / ((x.den : Int) : Rat) = x := by rw [← Rat.divInt_eq_div, q_of]
theorem den_ne (x : Rat) : ((x.den : Int) : Rat) ≠ 0 := by
  have := x.den_nz
  simp only [ne_eq, Rat.intCast_eq_zero_iff]
  omega
theorem divInt_den (x : Rat) (k : Int) (h : k ≠ 0) : Rat.divInt x.num (x.den * k) = x / k := by
  rw [Rat.divInt_eq_div, Rat.intCast_mul]
  have h1 := num_den x
  have h2 := den_ne x
  have h3 : (k : Rat) ≠ 0 := by simpa using h
  grind
theorem q_add (x y : Rat) : Rat.divInt (x.num * y.den + y.num * x.den) (x.den * y.den) = x + y := by
  have h1 := x.den_nz
  have h2 := y.den_nz
  rw [← Rat.divInt_add_divInt _ _ (by omega) (by omega), q_of, q_of]
theorem q_sub (x y : Rat) : Rat.divInt (x.num * y.den - y.num * x.den) (x.den * y.den) = x - y := by
  have h1 := x.den_nz
  have h2 := y.den_nz
  rw [← Rat.divInt_sub_divInt _ _ (by omega) (by omega), q_of, q_of]
theorem q_mul (x y : Rat) : Rat.divInt (x.num * y.num) (x.den * y.den) = x * y := by
  rw [← Rat.divInt_mul_divInt, q_of, q_of]
theorem dq_int (a : Int) : PyData.tuple [.int a, .int 1] = dq (a : Rat) := by simp [dq]
theorem dq_sq (a : Int) : PyData.tuple [.int (a * a), .int 1] = dq ((a : Rat) * a) := by rw [dq_int, Rat.intCast_mul]
section
variable {S : Store} {x y : Rat} {n m : Nat}
@[simp] theorem oIx_dq0 : oIx (.d (dq x)) (.d (.int 0)) S = .ok (.d (.int x.num)) S := by simp [dq]
@[simp] theorem oIx_dq1 : oIx (.d (dq x)) (.d (.int 1)) S = .ok (.d (.int x.den)) S := by simp [dq]
theorem shal_dq : shal (dq x) = true := by simp [shal, dq, PyData.plain, PyData.plainAll, PyData.depth, PyData.depthAll]
@[simp] theorem oEq_dq : oEq (.d (dq x)) (.d (dq y)) S = .ok (.d (.bool (decide (x = y)))) S := by simp [oEq, shal_dq, eqv_dq]
@[simp] theorem oNe_dq : oNe (.d (dq x)) (.d (dq y)) S = .ok (.d (.bool (!decide (x = y)))) S := by simp [oNe, shal_dq, eqv_dq]
theorem Qs.int {a : Int} (h : Bd n a) (hn : 1 ≤ n) : Qs n (a : Rat) := ⟨h, by
  show ((a : Rat).den : Int).natAbs < 2 ^ n
  have : (1 : Nat) < 2 ^ n := Nat.one_lt_two_pow (by omega)
  simpa using this⟩
theorem Qs.add (hx : Qs n x) (hy : Qs n y) : Qs (n + n + 1) (x + y) := by
  rw [← q_add]
  exact .div ((hx.num.mul hy.den).add (hy.num.mul hx.den)) ((hx.den.mul hy.den).mono (by omega)) (Int.mul_pos (den_pos x) (den_pos y))
theorem Qs.sub (hx : Qs n x) (hy : Qs n y) : Qs (n + n + 1) (x - y) := by
  rw [← q_sub]
  exact .div ((hx.num.mul hy.den).sub (hy.num.mul hx.den)) ((hx.den.mul hy.den).mono (by omega)) (Int.mul_pos (den_pos x) (den_pos y))
theorem Qs.mul (hx : Qs n x) (hy : Qs n y) : Qs (n + n) (x * y) := by
  rw [← q_mul]
  exact .div (hx.num.mul hy.num) (hx.den.mul hy.den) (Int.mul_pos (den_pos x) (den_pos y))
theorem Qs.divI {k : Int} (hx : Qs n x) (hk : Bd m k) (h : 0 < k) : Qs (n + m) (x / k) := by
  rw [← divInt_den x k (by omega)]
  exact .div (hx.num.mono (by omega)) (hx.den.mul hk) (Int.mul_pos (den_pos x) h)
end
def topS (i : Nat) : Stmt := PySem.Challenge.pw_airfield_k46_whole_lengths_of_rolls.main.body.getD i (.Pass ⟨0, 0, 0, 0⟩)
abbrev s__law_hand : Stmt := topS 29
abbrev s_is_integer : Stmt := topS 1
abbrev s_is_within : Stmt := topS 2
abbrev s_check_numbers : Stmt := topS 14
abbrev s_common : Stmt := topS 7
abbrev s_fraction : Stmt := topS 8
abbrev s_minus : Stmt := topS 10
abbrev s_way_between : Stmt := topS 15
abbrev s_whole_of : Stmt := topS 11
abbrev s_square_of : Stmt := topS 16
abbrev s_roll_to : Stmt := topS 17
abbrev s_check_slow : Stmt := topS 20
abbrev s_check_four : Stmt := topS 22
abbrev s_raw_even : Stmt := topS 23
abbrev s_even_square : Stmt := topS 26
abbrev s_plus : Stmt := topS 9
abbrev s_raw_needed : Stmt := topS 24
abbrev s_needed : Stmt := topS 25
abbrev s_can_use : Stmt := topS 27
abbrev s_gone_on : Stmt := topS 21
abbrev s_given_up : Stmt := topS 19
abbrev s_stop_from : Stmt := topS 18
abbrev s__law_draw : Stmt := topS 30
abbrev s__law_frac : Stmt := topS 32
abbrev s__law_length : Stmt := topS 37
abbrev s__law_sign : Stmt := topS 36
abbrev s__law_plus : Stmt := topS 33
abbrev s__law_some : Stmt := topS 31
abbrev s__law_less : Stmt := topS 34
abbrev s__law_times : Stmt := topS 35
abbrev s__law_is_right : Stmt := topS 38
abbrev s_law : Stmt := topS 39
structure Hd (K : PySem.W.Frag) (mg : Str → Option Value) : Prop where
  d__law_hand : DefF K mg "_law_hand" s__law_hand
  d_is_integer : DefF K mg "is_integer" s_is_integer
  d_is_within : DefF K mg "is_within" s_is_within
  d_check_numbers : DefF K mg "check_numbers" s_check_numbers
  d_common : DefF K mg "common" s_common
  d_fraction : DefF K mg "fraction" s_fraction
  d_minus : DefF K mg "minus" s_minus
  d_way_between : DefF K mg "way_between" s_way_between
  d_whole_of : DefF K mg "whole_of" s_whole_of
  d_square_of : DefF K mg "square_of" s_square_of
  d_roll_to : DefF K mg "roll_to" s_roll_to
  d_check_slow : DefF K mg "check_slow" s_check_slow
  d_check_four : DefF K mg "check_four" s_check_four
  d_raw_even : DefF K mg "raw_even" s_raw_even
  d_even_square : DefF K mg "even_square" s_even_square
  d_plus : DefF K mg "plus" s_plus
  d_raw_needed : DefF K mg "raw_needed" s_raw_needed
  d_needed : DefF K mg "needed" s_needed
  d_can_use : DefF K mg "can_use" s_can_use
  d_gone_on : DefF K mg "gone_on" s_gone_on
  d_given_up : DefF K mg "given_up" s_given_up
  d_stop_from : DefF K mg "stop_from" s_stop_from
  d__law_draw : DefF K mg "_law_draw" s__law_draw
  d__law_frac : DefF K mg "_law_frac" s__law_frac
  d__law_length : DefF K mg "_law_length" s__law_length
  d__law_sign : DefF K mg "_law_sign" s__law_sign
  d__law_plus : DefF K mg "_law_plus" s__law_plus
  d__law_some : DefF K mg "_law_some" s__law_some
  d__law_less : DefF K mg "_law_less" s__law_less
  d__law_times : DefF K mg "_law_times" s__law_times
  d__law_is_right : DefF K mg "_law_is_right" s__law_is_right
  d_law : DefF K mg "law" s_law
  z_abs : mg "abs" = none
  z_all : mg "all" = none
  z_bool : mg "bool" = none
  z_int : mg "int" = none
  z_isinstance : mg "isinstance" = none
  z_len : mg "len" = none
  z_max : mg "max" = none
  z_min : mg "min" = none
  z_range : mg "range" = none
  z_repr : mg "repr" = none
  e_NoNumber : ExF K mg "NoNumber"
  c_MOST : IntF mg "MOST" 10000
abbrev N__law_hand : List Str := ["script", "cells", "cell"]
theorem sc__law_hand : FnScope N__law_hand ["script"] (defScope s__law_hand) := ⟨rfl, rfl, rfl, by decide +kernel, rfl, by decide +kernel, by decide +kernel⟩
noncomputable def l0__law_hand : Ev := (eCall fAbs (aCons (eCall fInt (aCons (eVar 2) aNil)) aNil))
noncomputable def b__law_hand : Sv := (sCons (sSet 1 (eLc false (iSeq (eSl false (eVar 0) pNo (pAt (eD (.int 63))))) (gN 2) tYesD l0__law_hand [2]))
  (sRet (eLst true (aCons (eVar 1) (aCons (eD (.int 0)) (aCons (eD (.int 0)) (aCons (eBin (oAdd false) (eD (.int 431)) (eBin (oMul false) (eD (.int 7)) (eCall fLen (aCons (eVar 1) aNil)))) (aCons (eD (.int 0)) aNil))))))))
noncomputable def g__law_hand : Fn := fnOf 3 b__law_hand
theorem bd__law_hand {P : Program} {w : World} {K : PySem.W.Frag} {mg : Str → Option Value} {base : Heap} (h : Hd K mg) (f : Addr) (cdv : Value) (B : Around) (fs : List PySem.Env) (s : Shared) (H : Hp) (E : XK) (cc : Cc (cxD P w K mg base N__law_hand "_law_hand" s__law_hand f cdv B fs s H E) (wD E) 0) : DB (cxD P w K mg base N__law_hand "_law_hand" s__law_hand f cdv B fs s H E) (wD E) (defBody s__law_hand) b__law_hand :=
  (db_cons (ds_lc 1 false cc rfl rfl (by rfl) (di_seq (de_sl false (de_var 0) dp_no (dp_at de_int))) (blkOk_by (N := N__law_hand) (sc := defScope s__law_hand) (own := [("cell", 2)]) (by decide +kernel)) (fun _ _ _ _ _ => (dg_name 2 cc.blk.nd rfl (.inl rfl))) (fun _ _ _ _ _ => dts_nil) (fun _ _ _ _ _ => (de_callB call_abs ok_abs (by rfl) h.z_abs bb_abs (da_cons (de_callTy call_int1 ok_int (by rfl) h.z_int bb_int (da_cons (de_var 2) da_nil)) da_nil))))
  (db_one (ds_ret (de_lst true (da_cons (de_var 1) (da_cons de_int (da_cons de_int (da_cons (de_bin op_addX ok_add de_int (de_bin op_mulX' ok_mul de_int (de_callB call_lenX ok_len (by rfl) h.z_len bb_len (da_cons (de_var 1) da_nil)))) (da_cons de_int da_nil)))))))))
theorem bi__law_hand (kV doc pm : Value) (an : Option Addr) (cdv ct : Value) (us : List Value) (hl : us.length = 1) : bindArgs (PySem.W.fnOf "_law_hand" "_law_hand" (defArgs s__law_hand) (defBody s__law_hand) (defScope s__law_hand) .none kV doc pm an cdv ct) ⟨us, []⟩ = pure ((["script"] : List Str).zip us) := match us, hl with | [_], _ => rfl
theorem ok__law_hand {P : Program} {w : World} {K : PySem.W.Frag} {mg : Str → Option Value} {base : Heap} (h : Hd K mg) : DefOk P w K mg base 1 1 "_law_hand" g__law_hand :=
  def_ok (b := b__law_hand) (N := N__law_hand) (ps := ["script"]) (st := s__law_hand) h.d__law_hand sc__law_hand rfl bi__law_hand (bd__law_hand h)
abbrev N_is_integer : List Str := ["thing"]
theorem sc_is_integer : FnScope N_is_integer ["thing"] (defScope s_is_integer) := ⟨rfl, rfl, rfl, by decide +kernel, rfl, by decide +kernel, by decide +kernel⟩
noncomputable def b_is_integer : Sv := (sRet (eAnd (eCall fIsi (aCons (eVar 0) (aCons (eTy .int) aNil))) (eNot (eCall fIsi (aCons (eVar 0) (aCons (eTy .bool) aNil))))))
noncomputable def g_is_integer : Fn := fnOf 1 b_is_integer
theorem bd_is_integer {P : Program} {w : World} {K : PySem.W.Frag} {mg : Str → Option Value} {base : Heap} (h : Hd K mg) (f : Addr) (cdv : Value) (B : Around) (fs : List PySem.Env) (s : Shared) (H : Hp) (E : XK) (cc : Cc (cxD P w K mg base N_is_integer "is_integer" s_is_integer f cdv B fs s H E) (wD E) 0) : DB (cxD P w K mg base N_is_integer "is_integer" s_is_integer f cdv B fs s H E) (wD E) (defBody s_is_integer) b_is_integer :=
  (db_one (ds_ret (de_and (de_callB call_isiX ok_isi (by rfl) h.z_isinstance bb_isinstance (da_cons (de_var 0) (da_cons (de_ty (T := .int) (by rfl) h.z_int bb_int) da_nil))) (de_one (de_not (de_callB call_isiX ok_isi (by rfl) h.z_isinstance bb_isinstance (da_cons (de_var 0) (da_cons (de_ty (T := .bool) (by rfl) h.z_bool bb_bool) da_nil))))))))
theorem bi_is_integer (kV doc pm : Value) (an : Option Addr) (cdv ct : Value) (us : List Value) (hl : us.length = 1) : bindArgs (PySem.W.fnOf "is_integer" "is_integer" (defArgs s_is_integer) (defBody s_is_integer) (defScope s_is_integer) .none kV doc pm an cdv ct) ⟨us, []⟩ = pure ((["thing"] : List Str).zip us) := match us, hl with | [_], _ => rfl
theorem ok_is_integer {P : Program} {w : World} {K : PySem.W.Frag} {mg : Str → Option Value} {base : Heap} (h : Hd K mg) : DefOk P w K mg base 1 1 "is_integer" g_is_integer :=
  def_ok (b := b_is_integer) (N := N_is_integer) (ps := ["thing"]) (st := s_is_integer) h.d_is_integer sc_is_integer rfl bi_is_integer (bd_is_integer h)
abbrev N_is_within : List Str := ["thing", "least", "most"]
theorem sc_is_within : FnScope N_is_within ["thing", "least", "most"] (defScope s_is_within) := ⟨rfl, rfl, rfl, by decide +kernel, rfl, by decide +kernel, by decide +kernel⟩
noncomputable def b_is_within : Sv := (sRet (eAnd (eCallN 1 g_is_integer (aCons (eVar 0) aNil)) (eChain oLe oLe (eVar 1) (eVar 0) (eVar 2))))
noncomputable def g_is_within : Fn := fnOf 3 b_is_within
theorem bd_is_within {P : Program} {w : World} {K : PySem.W.Frag} {mg : Str → Option Value} {base : Heap} (h : Hd K mg) (f : Addr) (cdv : Value) (B : Around) (fs : List PySem.Env) (s : Shared) (H : Hp) (E : XK) (cc : Cc (cxD P w K mg base N_is_within "is_within" s_is_within f cdv B fs s H E) (wD E) 1) : DB (cxD P w K mg base N_is_within "is_within" s_is_within f cdv B fs s H E) (wD E) (defBody s_is_within) b_is_within :=
  (db_one (ds_ret (de_and (de_callD (ok_is_integer h) cc (by decide) (by rfl) (da_cons (de_var 0) da_nil)) (de_one (de_chain (op_leX cc.hu) ok_le (op_leX cc.hu) ok_le (de_var 1) (de_var 0) (de_var 2))))))
theorem bi_is_within (kV doc pm : Value) (an : Option Addr) (cdv ct : Value) (us : List Value) (hl : us.length = 3) : bindArgs (PySem.W.fnOf "is_within" "is_within" (defArgs s_is_within) (defBody s_is_within) (defScope s_is_within) .none kV doc pm an cdv ct) ⟨us, []⟩ = pure ((["thing", "least", "most"] : List Str).zip us) := match us, hl with | [_, _, _], _ => rfl
theorem ok_is_within {P : Program} {w : World} {K : PySem.W.Frag} {mg : Str → Option Value} {base : Heap} (h : Hd K mg) : DefOk P w K mg base 2 3 "is_within" g_is_within :=
  def_ok (b := b_is_within) (N := N_is_within) (ps := ["thing", "least", "most"]) (st := s_is_within) h.d_is_within sc_is_within rfl bi_is_within (bd_is_within h)
abbrev N_check_numbers : List Str := ["numbers", "one"]
theorem sc_check_numbers : FnScope N_check_numbers ["numbers"] (defScope s_check_numbers) := ⟨rfl, rfl, rfl, by decide +kernel, rfl, by decide +kernel, by decide +kernel⟩
noncomputable def l0_check_numbers : Sv := (sIf (tNot (tOf (eCallN 3 g_is_within (aCons (eVar 1) (aCons (eD (.int 1)) (aCons (eD (.int 10000)) aNil))))))
  (sRaise "NoNumber")
  sNil)
noncomputable def b_check_numbers : Sv := (sFor (iSeq (eVar 0)) (gN 1) l0_check_numbers)
noncomputable def g_check_numbers : Fn := fnOf 2 b_check_numbers
theorem bd_check_numbers {P : Program} {w : World} {K : PySem.W.Frag} {mg : Str → Option Value} {base : Heap} (h : Hd K mg) (f : Addr) (cdv : Value) (B : Around) (fs : List PySem.Env) (s : Shared) (H : Hp) (E : XK) (cc : Cc (cxD P w K mg base N_check_numbers "check_numbers" s_check_numbers f cdv B fs s H E) (wD E) 2) : DB (cxD P w K mg base N_check_numbers "check_numbers" s_check_numbers f cdv B fs s H E) (wD E) (defBody s_check_numbers) b_check_numbers :=
  (db_one (ds_for cc (di_seq (de_var 0)) (dg_name 1 cc.nd rfl (.inl rfl))
  (db_one (ds_if (dt_not (dt_val (de_callD (ok_is_within h) cc (by decide) (by rfl) (da_cons (de_var 1) (da_cons de_int (da_cons (de_conI h.c_MOST (by rfl)) da_nil))))))
  (db_one (ds_raise0 cc h.e_NoNumber (by rfl)))
  db_nil))))
theorem bi_check_numbers (kV doc pm : Value) (an : Option Addr) (cdv ct : Value) (us : List Value) (hl : us.length = 1) : bindArgs (PySem.W.fnOf "check_numbers" "check_numbers" (defArgs s_check_numbers) (defBody s_check_numbers) (defScope s_check_numbers) .none kV doc pm an cdv ct) ⟨us, []⟩ = pure ((["numbers"] : List Str).zip us) := match us, hl with | [_], _ => rfl
theorem ok_check_numbers {P : Program} {w : World} {K : PySem.W.Frag} {mg : Str → Option Value} {base : Heap} (h : Hd K mg) : DefOk P w K mg base 3 1 "check_numbers" g_check_numbers :=
  def_ok (b := b_check_numbers) (N := N_check_numbers) (ps := ["numbers"]) (st := s_check_numbers) h.d_check_numbers sc_check_numbers rfl bi_check_numbers (bd_check_numbers h)
abbrev N_common : List Str := ["one", "other"]
theorem sc_common : FnScope N_common ["one", "other"] (defScope s_common) := ⟨rfl, rfl, rfl, by decide +kernel, rfl, by decide +kernel, by decide +kernel⟩
noncomputable def l0_common : Tv := (tOf (eBin oNe (eVar 1) (eD (.int 0))))
noncomputable def l1_common : Sv := (sPar [(gN 0), (gN 1)] (aCons (eVar 1) (aCons (eBin oMod (eVar 0) (eVar 1)) aNil)))
noncomputable def b_common : Sv := (sCons (sWhile l0_common l1_common)
  (sRet (eCall fAbs (aCons (eVar 0) aNil))))
noncomputable def g_common : Fn := fnOf 2 b_common
theorem bd_common {P : Program} {w : World} {K : PySem.W.Frag} {mg : Str → Option Value} {base : Heap} (h : Hd K mg) (f : Addr) (cdv : Value) (B : Around) (fs : List PySem.Env) (s : Shared) (H : Hp) (E : XK) (cc : Cc (cxD P w K mg base N_common "common" s_common f cdv B fs s H E) (wD E) 0) : DB (cxD P w K mg base N_common "common" s_common f cdv B fs s H E) (wD E) (defBody s_common) b_common :=
  (db_cons (ds_while cc (dt_cmp (op_neX cc.hu) ok_ne (de_var 1) de_int (nomark _))
  (db_one (ds_par2 0 1 cc.calm cc.nd rfl rfl (by decide) rfl rfl (da_cons (de_var 1) (da_cons (de_bin op_modX ok_mod (de_var 0) (de_var 1)) da_nil)))))
  (db_one (ds_ret (de_callB call_abs ok_abs (by rfl) h.z_abs bb_abs (da_cons (de_var 0) da_nil)))))
theorem bi_common (kV doc pm : Value) (an : Option Addr) (cdv ct : Value) (us : List Value) (hl : us.length = 2) : bindArgs (PySem.W.fnOf "common" "common" (defArgs s_common) (defBody s_common) (defScope s_common) .none kV doc pm an cdv ct) ⟨us, []⟩ = pure ((["one", "other"] : List Str).zip us) := match us, hl with | [_, _], _ => rfl
theorem ok_common {P : Program} {w : World} {K : PySem.W.Frag} {mg : Str → Option Value} {base : Heap} (h : Hd K mg) : DefOk P w K mg base 1 2 "common" g_common :=
  def_ok (b := b_common) (N := N_common) (ps := ["one", "other"]) (st := s_common) h.d_common sc_common rfl bi_common (bd_common h)
abbrev N_fraction : List Str := ["top", "bottom", "part"]
theorem sc_fraction : FnScope N_fraction ["top", "bottom"] (defScope s_fraction) := ⟨rfl, rfl, rfl, by decide +kernel, rfl, by decide +kernel, by decide +kernel⟩
noncomputable def b_fraction : Sv := (sCons (sIf (tOf (eBin oLt (eVar 1) (eD (.int 0))))
  (sPar [(gN 0), (gN 1)] (aCons (eUn oNeg (eVar 0)) (aCons (eUn oNeg (eVar 1)) aNil)))
  sNil)
  (sCons (sSet 2 (eCallN 2 g_common (aCons (eVar 0) (aCons (eVar 1) aNil))))
  (sRet (eTup (aCons (eBin oDiv (eVar 0) (eVar 2)) (aCons (eBin oDiv (eVar 1) (eVar 2)) aNil))))))
noncomputable def g_fraction : Fn := fnOf 3 b_fraction
theorem bd_fraction {P : Program} {w : World} {K : PySem.W.Frag} {mg : Str → Option Value} {base : Heap} (h : Hd K mg) (f : Addr) (cdv : Value) (B : Around) (fs : List PySem.Env) (s : Shared) (H : Hp) (E : XK) (cc : Cc (cxD P w K mg base N_fraction "fraction" s_fraction f cdv B fs s H E) (wD E) 1) : DB (cxD P w K mg base N_fraction "fraction" s_fraction f cdv B fs s H E) (wD E) (defBody s_fraction) b_fraction :=
  (db_cons (ds_if (dt_cmp (op_ltX cc.hu) ok_lt (de_var 1) de_int (nomark _))
  (db_one (ds_par2 0 1 cc.calm cc.nd rfl rfl (by decide) rfl rfl (da_cons (de_un un_neg ok_neg (de_var 0)) (da_cons (de_un un_neg ok_neg (de_var 1)) da_nil))))
  db_nil)
  (db_cons (ds_set 2 cc.nd rfl (.inl rfl) (de_callD (ok_common h) cc (by decide) (by rfl) (da_cons (de_var 0) (da_cons (de_var 1) da_nil))))
  (db_one (ds_ret (de_tup (da_cons (de_bin op_divX ok_div (de_var 0) (de_var 2)) (da_cons (de_bin op_divX ok_div (de_var 1) (de_var 2)) da_nil)))))))
theorem bi_fraction (kV doc pm : Value) (an : Option Addr) (cdv ct : Value) (us : List Value) (hl : us.length = 2) : bindArgs (PySem.W.fnOf "fraction" "fraction" (defArgs s_fraction) (defBody s_fraction) (defScope s_fraction) .none kV doc pm an cdv ct) ⟨us, []⟩ = pure ((["top", "bottom"] : List Str).zip us) := match us, hl with | [_, _], _ => rfl
theorem ok_fraction {P : Program} {w : World} {K : PySem.W.Frag} {mg : Str → Option Value} {base : Heap} (h : Hd K mg) : DefOk P w K mg base 2 2 "fraction" g_fraction :=
  def_ok (b := b_fraction) (N := N_fraction) (ps := ["top", "bottom"]) (st := s_fraction) h.d_fraction sc_fraction rfl bi_fraction (bd_fraction h)
abbrev N_minus : List Str := ["one", "other"]
theorem sc_minus : FnScope N_minus ["one", "other"] (defScope s_minus) := ⟨rfl, rfl, rfl, by decide +kernel, rfl, by decide +kernel, by decide +kernel⟩
noncomputable def b_minus : Sv := (sRet (eCallN 2 g_fraction (aCons (eBin oSub (eBin (oMul false) (eBin oIx (eVar 0) (eD (.int 0))) (eBin oIx (eVar 1) (eD (.int 1)))) (eBin (oMul false) (eBin oIx (eVar 1) (eD (.int 0))) (eBin oIx (eVar 0) (eD (.int 1))))) (aCons (eBin (oMul false) (eBin oIx (eVar 0) (eD (.int 1))) (eBin oIx (eVar 1) (eD (.int 1)))) aNil))))
noncomputable def g_minus : Fn := fnOf 2 b_minus
theorem bd_minus {P : Program} {w : World} {K : PySem.W.Frag} {mg : Str → Option Value} {base : Heap} (h : Hd K mg) (f : Addr) (cdv : Value) (B : Around) (fs : List PySem.Env) (s : Shared) (H : Hp) (E : XK) (cc : Cc (cxD P w K mg base N_minus "minus" s_minus f cdv B fs s H E) (wD E) 2) : DB (cxD P w K mg base N_minus "minus" s_minus f cdv B fs s H E) (wD E) (defBody s_minus) b_minus :=
  (db_one (ds_ret (de_callD (ok_fraction h) cc (by decide) (by rfl) (da_cons (de_bin op_sub ok_sub (de_bin op_mulX' ok_mul (de_ix (j := 0) (de_var 0) de_int) (de_ix (j := 0) (de_var 1) de_int)) (de_bin op_mulX' ok_mul (de_ix (j := 0) (de_var 1) de_int) (de_ix (j := 0) (de_var 0) de_int))) (da_cons (de_bin op_mulX' ok_mul (de_ix (j := 0) (de_var 0) de_int) (de_ix (j := 0) (de_var 1) de_int)) da_nil)))))
theorem bi_minus (kV doc pm : Value) (an : Option Addr) (cdv ct : Value) (us : List Value) (hl : us.length = 2) : bindArgs (PySem.W.fnOf "minus" "minus" (defArgs s_minus) (defBody s_minus) (defScope s_minus) .none kV doc pm an cdv ct) ⟨us, []⟩ = pure ((["one", "other"] : List Str).zip us) := match us, hl with | [_, _], _ => rfl
theorem ok_minus {P : Program} {w : World} {K : PySem.W.Frag} {mg : Str → Option Value} {base : Heap} (h : Hd K mg) : DefOk P w K mg base 3 2 "minus" g_minus :=
  def_ok (b := b_minus) (N := N_minus) (ps := ["one", "other"]) (st := s_minus) h.d_minus sc_minus rfl bi_minus (bd_minus h)
abbrev N_way_between : List Str := ["slower", "faster", "force", "change"]
theorem sc_way_between : FnScope N_way_between ["slower", "faster", "force"] (defScope s_way_between) := ⟨rfl, rfl, rfl, by decide +kernel, rfl, by decide +kernel, by decide +kernel⟩
noncomputable def b_way_between : Sv := (sCons (sSet 3 (eCallN 2 g_minus (aCons (eVar 1) (aCons (eVar 0) aNil))))
  (sRet (eCallN 2 g_fraction (aCons (eBin oIx (eVar 3) (eD (.int 0))) (aCons (eBin (oMul false) (eBin (oMul false) (eBin oIx (eVar 3) (eD (.int 1))) (eD (.int 2))) (eVar 2)) aNil)))))
noncomputable def g_way_between : Fn := fnOf 4 b_way_between
theorem bd_way_between {P : Program} {w : World} {K : PySem.W.Frag} {mg : Str → Option Value} {base : Heap} (h : Hd K mg) (f : Addr) (cdv : Value) (B : Around) (fs : List PySem.Env) (s : Shared) (H : Hp) (E : XK) (cc : Cc (cxD P w K mg base N_way_between "way_between" s_way_between f cdv B fs s H E) (wD E) 3) : DB (cxD P w K mg base N_way_between "way_between" s_way_between f cdv B fs s H E) (wD E) (defBody s_way_between) b_way_between :=
  (db_cons (ds_set 3 cc.nd rfl (.inl rfl) (de_callD (ok_minus h) cc (by decide) (by rfl) (da_cons (de_var 1) (da_cons (de_var 0) da_nil))))
  (db_one (ds_ret (de_callD (ok_fraction h) cc (by decide) (by rfl) (da_cons (de_ix (j := 0) (de_var 3) de_int) (da_cons (de_bin op_mulX' ok_mul (de_bin op_mulX' ok_mul (de_ix (j := 0) (de_var 3) de_int) de_int) (de_var 2)) da_nil))))))
theorem bi_way_between (kV doc pm : Value) (an : Option Addr) (cdv ct : Value) (us : List Value) (hl : us.length = 3) : bindArgs (PySem.W.fnOf "way_between" "way_between" (defArgs s_way_between) (defBody s_way_between) (defScope s_way_between) .none kV doc pm an cdv ct) ⟨us, []⟩ = pure ((["slower", "faster", "force"] : List Str).zip us) := match us, hl with | [_, _, _], _ => rfl
theorem ok_way_between {P : Program} {w : World} {K : PySem.W.Frag} {mg : Str → Option Value} {base : Heap} (h : Hd K mg) : DefOk P w K mg base 4 3 "way_between" g_way_between :=
  def_ok (b := b_way_between) (N := N_way_between) (ps := ["slower", "faster", "force"]) (st := s_way_between) h.d_way_between sc_way_between rfl bi_way_between (bd_way_between h)
abbrev N_whole_of : List Str := ["number"]
theorem sc_whole_of : FnScope N_whole_of ["number"] (defScope s_whole_of) := ⟨rfl, rfl, rfl, by decide +kernel, rfl, by decide +kernel, by decide +kernel⟩
noncomputable def b_whole_of : Sv := (sRet (eTup (aCons (eVar 0) (aCons (eD (.int 1)) aNil))))
noncomputable def g_whole_of : Fn := fnOf 1 b_whole_of
theorem bd_whole_of {P : Program} {w : World} {K : PySem.W.Frag} {mg : Str → Option Value} {base : Heap} (h : Hd K mg) (f : Addr) (cdv : Value) (B : Around) (fs : List PySem.Env) (s : Shared) (H : Hp) (E : XK) (cc : Cc (cxD P w K mg base N_whole_of "whole_of" s_whole_of f cdv B fs s H E) (wD E) 0) : DB (cxD P w K mg base N_whole_of "whole_of" s_whole_of f cdv B fs s H E) (wD E) (defBody s_whole_of) b_whole_of :=
  (db_one (ds_ret (de_tup (da_cons (de_var 0) (da_cons de_int da_nil)))))
theorem bi_whole_of (kV doc pm : Value) (an : Option Addr) (cdv ct : Value) (us : List Value) (hl : us.length = 1) : bindArgs (PySem.W.fnOf "whole_of" "whole_of" (defArgs s_whole_of) (defBody s_whole_of) (defScope s_whole_of) .none kV doc pm an cdv ct) ⟨us, []⟩ = pure ((["number"] : List Str).zip us) := match us, hl with | [_], _ => rfl
theorem ok_whole_of {P : Program} {w : World} {K : PySem.W.Frag} {mg : Str → Option Value} {base : Heap} (h : Hd K mg) : DefOk P w K mg base 1 1 "whole_of" g_whole_of :=
  def_ok (b := b_whole_of) (N := N_whole_of) (ps := ["number"]) (st := s_whole_of) h.d_whole_of sc_whole_of rfl bi_whole_of (bd_whole_of h)
abbrev N_square_of : List Str := ["speed"]
theorem sc_square_of : FnScope N_square_of ["speed"] (defScope s_square_of) := ⟨rfl, rfl, rfl, by decide +kernel, rfl, by decide +kernel, by decide +kernel⟩
noncomputable def b_square_of : Sv := (sRet (eCallN 1 g_whole_of (aCons (eBin (oMul false) (eVar 0) (eVar 0)) aNil)))
noncomputable def g_square_of : Fn := fnOf 1 b_square_of
theorem bd_square_of {P : Program} {w : World} {K : PySem.W.Frag} {mg : Str → Option Value} {base : Heap} (h : Hd K mg) (f : Addr) (cdv : Value) (B : Around) (fs : List PySem.Env) (s : Shared) (H : Hp) (E : XK) (cc : Cc (cxD P w K mg base N_square_of "square_of" s_square_of f cdv B fs s H E) (wD E) 1) : DB (cxD P w K mg base N_square_of "square_of" s_square_of f cdv B fs s H E) (wD E) (defBody s_square_of) b_square_of :=
  (db_one (ds_ret (de_callD (ok_whole_of h) cc (by decide) (by rfl) (da_cons (de_bin op_mulX' ok_mul (de_var 0) (de_var 0)) da_nil))))
theorem bi_square_of (kV doc pm : Value) (an : Option Addr) (cdv ct : Value) (us : List Value) (hl : us.length = 1) : bindArgs (PySem.W.fnOf "square_of" "square_of" (defArgs s_square_of) (defBody s_square_of) (defScope s_square_of) .none kV doc pm an cdv ct) ⟨us, []⟩ = pure ((["speed"] : List Str).zip us) := match us, hl with | [_], _ => rfl
theorem ok_square_of {P : Program} {w : World} {K : PySem.W.Frag} {mg : Str → Option Value} {base : Heap} (h : Hd K mg) : DefOk P w K mg base 2 1 "square_of" g_square_of :=
  def_ok (b := b_square_of) (N := N_square_of) (ps := ["speed"]) (st := s_square_of) h.d_square_of sc_square_of rfl bi_square_of (bd_square_of h)
abbrev N_roll_to : List Str := ["go", "lift"]
theorem sc_roll_to : FnScope N_roll_to ["go", "lift"] (defScope s_roll_to) := ⟨rfl, rfl, rfl, by decide +kernel, rfl, by decide +kernel, by decide +kernel⟩
noncomputable def b_roll_to : Sv := (sCons (sExpr (eCallN 1 g_check_numbers (aCons (eTup (aCons (eVar 0) (aCons (eVar 1) aNil))) aNil)))
  (sRet (eCallN 3 g_way_between (aCons (eTup (aCons (eD (.int 0)) (aCons (eD (.int 1)) aNil))) (aCons (eCallN 1 g_square_of (aCons (eVar 1) aNil)) (aCons (eVar 0) aNil))))))
noncomputable def g_roll_to : Fn := fnOf 2 b_roll_to
theorem bd_roll_to {P : Program} {w : World} {K : PySem.W.Frag} {mg : Str → Option Value} {base : Heap} (h : Hd K mg) (f : Addr) (cdv : Value) (B : Around) (fs : List PySem.Env) (s : Shared) (H : Hp) (E : XK) (cc : Cc (cxD P w K mg base N_roll_to "roll_to" s_roll_to f cdv B fs s H E) (wD E) 4) : DB (cxD P w K mg base N_roll_to "roll_to" s_roll_to f cdv B fs s H E) (wD E) (defBody s_roll_to) b_roll_to :=
  (db_cons (ds_expr (de_callD (ok_check_numbers h) cc (by decide) (by rfl) (da_cons (de_tup (da_cons (de_var 0) (da_cons (de_var 1) da_nil))) da_nil)))
  (db_one (ds_ret (de_callD (ok_way_between h) cc (by decide) (by rfl) (da_cons (de_tup (da_cons de_int (da_cons de_int da_nil))) (da_cons (de_callD (ok_square_of h) cc (by decide) (by rfl) (da_cons (de_var 1) da_nil)) (da_cons (de_var 0) da_nil)))))))
theorem bi_roll_to (kV doc pm : Value) (an : Option Addr) (cdv ct : Value) (us : List Value) (hl : us.length = 2) : bindArgs (PySem.W.fnOf "roll_to" "roll_to" (defArgs s_roll_to) (defBody s_roll_to) (defScope s_roll_to) .none kV doc pm an cdv ct) ⟨us, []⟩ = pure ((["go", "lift"] : List Str).zip us) := match us, hl with | [_, _], _ => rfl
theorem ok_roll_to {P : Program} {w : World} {K : PySem.W.Frag} {mg : Str → Option Value} {base : Heap} (h : Hd K mg) : DefOk P w K mg base 5 2 "roll_to" g_roll_to :=
  def_ok (b := b_roll_to) (N := N_roll_to) (ps := ["go", "lift"]) (st := s_roll_to) h.d_roll_to sc_roll_to rfl bi_roll_to (bd_roll_to h)
abbrev N_check_slow : List Str := ["go", "slow"]
theorem sc_check_slow : FnScope N_check_slow ["go", "slow"] (defScope s_check_slow) := ⟨rfl, rfl, rfl, by decide +kernel, rfl, by decide +kernel, by decide +kernel⟩
noncomputable def b_check_slow : Sv := (sIf (tOf (eBin oGt (eVar 1) (eVar 0)))
  (sRaise "NoNumber")
  sNil)
noncomputable def g_check_slow : Fn := fnOf 2 b_check_slow
theorem bd_check_slow {P : Program} {w : World} {K : PySem.W.Frag} {mg : Str → Option Value} {base : Heap} (h : Hd K mg) (f : Addr) (cdv : Value) (B : Around) (fs : List PySem.Env) (s : Shared) (H : Hp) (E : XK) (cc : Cc (cxD P w K mg base N_check_slow "check_slow" s_check_slow f cdv B fs s H E) (wD E) 0) : DB (cxD P w K mg base N_check_slow "check_slow" s_check_slow f cdv B fs s H E) (wD E) (defBody s_check_slow) b_check_slow :=
  (db_one (ds_if (dt_cmp (op_gtX cc.hu) ok_gt (de_var 1) (de_var 0) (nomark _))
  (db_one (ds_raise0 cc h.e_NoNumber (by rfl)))
  db_nil))
theorem bi_check_slow (kV doc pm : Value) (an : Option Addr) (cdv ct : Value) (us : List Value) (hl : us.length = 2) : bindArgs (PySem.W.fnOf "check_slow" "check_slow" (defArgs s_check_slow) (defBody s_check_slow) (defScope s_check_slow) .none kV doc pm an cdv ct) ⟨us, []⟩ = pure ((["go", "slow"] : List Str).zip us) := match us, hl with | [_, _], _ => rfl
theorem ok_check_slow {P : Program} {w : World} {K : PySem.W.Frag} {mg : Str → Option Value} {base : Heap} (h : Hd K mg) : DefOk P w K mg base 1 2 "check_slow" g_check_slow :=
  def_ok (b := b_check_slow) (N := N_check_slow) (ps := ["go", "slow"]) (st := s_check_slow) h.d_check_slow sc_check_slow rfl bi_check_slow (bd_check_slow h)
abbrev N_check_four : List Str := ["go", "slow", "stop", "lift"]
theorem sc_check_four : FnScope N_check_four ["go", "slow", "stop", "lift"] (defScope s_check_four) := ⟨rfl, rfl, rfl, by decide +kernel, rfl, by decide +kernel, by decide +kernel⟩
noncomputable def b_check_four : Sv := (sCons (sExpr (eCallN 1 g_check_numbers (aCons (eTup (aCons (eVar 0) (aCons (eVar 1) aNil))) aNil)))
  (sCons (sExpr (eCallN 2 g_check_slow (aCons (eVar 0) (aCons (eVar 1) aNil))))
  (sExpr (eCallN 1 g_check_numbers (aCons (eTup (aCons (eVar 2) (aCons (eVar 3) aNil))) aNil)))))
noncomputable def g_check_four : Fn := fnOf 4 b_check_four
theorem bd_check_four {P : Program} {w : World} {K : PySem.W.Frag} {mg : Str → Option Value} {base : Heap} (h : Hd K mg) (f : Addr) (cdv : Value) (B : Around) (fs : List PySem.Env) (s : Shared) (H : Hp) (E : XK) (cc : Cc (cxD P w K mg base N_check_four "check_four" s_check_four f cdv B fs s H E) (wD E) 3) : DB (cxD P w K mg base N_check_four "check_four" s_check_four f cdv B fs s H E) (wD E) (defBody s_check_four) b_check_four :=
  (db_cons (ds_expr (de_callD (ok_check_numbers h) cc (by decide) (by rfl) (da_cons (de_tup (da_cons (de_var 0) (da_cons (de_var 1) da_nil))) da_nil)))
  (db_cons (ds_expr (de_callD (ok_check_slow h) cc (by decide) (by rfl) (da_cons (de_var 0) (da_cons (de_var 1) da_nil))))
  (db_one (ds_expr (de_callD (ok_check_numbers h) cc (by decide) (by rfl) (da_cons (de_tup (da_cons (de_var 2) (da_cons (de_var 3) da_nil))) da_nil))))))
theorem bi_check_four (kV doc pm : Value) (an : Option Addr) (cdv ct : Value) (us : List Value) (hl : us.length = 4) : bindArgs (PySem.W.fnOf "check_four" "check_four" (defArgs s_check_four) (defBody s_check_four) (defScope s_check_four) .none kV doc pm an cdv ct) ⟨us, []⟩ = pure ((["go", "slow", "stop", "lift"] : List Str).zip us) := match us, hl with | [_, _, _, _], _ => rfl
theorem ok_check_four {P : Program} {w : World} {K : PySem.W.Frag} {mg : Str → Option Value} {base : Heap} (h : Hd K mg) : DefOk P w K mg base 4 4 "check_four" g_check_four :=
  def_ok (b := b_check_four) (N := N_check_four) (ps := ["go", "slow", "stop", "lift"]) (st := s_check_four) h.d_check_four sc_check_four rfl bi_check_four (bd_check_four h)
abbrev N_raw_even : List Str := ["slow", "stop", "lift"]
theorem sc_raw_even : FnScope N_raw_even ["slow", "stop", "lift"] (defScope s_raw_even) := ⟨rfl, rfl, rfl, by decide +kernel, rfl, by decide +kernel, by decide +kernel⟩
noncomputable def b_raw_even : Sv := (sRet (eCallN 2 g_fraction (aCons (eBin (oMul false) (eBin (oMul false) (eVar 2) (eVar 2)) (eVar 1)) (aCons (eBin (oAdd false) (eVar 0) (eVar 1)) aNil))))
noncomputable def g_raw_even : Fn := fnOf 3 b_raw_even
theorem bd_raw_even {P : Program} {w : World} {K : PySem.W.Frag} {mg : Str → Option Value} {base : Heap} (h : Hd K mg) (f : Addr) (cdv : Value) (B : Around) (fs : List PySem.Env) (s : Shared) (H : Hp) (E : XK) (cc : Cc (cxD P w K mg base N_raw_even "raw_even" s_raw_even f cdv B fs s H E) (wD E) 2) : DB (cxD P w K mg base N_raw_even "raw_even" s_raw_even f cdv B fs s H E) (wD E) (defBody s_raw_even) b_raw_even :=
  (db_one (ds_ret (de_callD (ok_fraction h) cc (by decide) (by rfl) (da_cons (de_bin op_mulX' ok_mul (de_bin op_mulX' ok_mul (de_var 2) (de_var 2)) (de_var 1)) (da_cons (de_bin op_addX ok_add (de_var 0) (de_var 1)) da_nil)))))
theorem bi_raw_even (kV doc pm : Value) (an : Option Addr) (cdv ct : Value) (us : List Value) (hl : us.length = 3) : bindArgs (PySem.W.fnOf "raw_even" "raw_even" (defArgs s_raw_even) (defBody s_raw_even) (defScope s_raw_even) .none kV doc pm an cdv ct) ⟨us, []⟩ = pure ((["slow", "stop", "lift"] : List Str).zip us) := match us, hl with | [_, _, _], _ => rfl
theorem ok_raw_even {P : Program} {w : World} {K : PySem.W.Frag} {mg : Str → Option Value} {base : Heap} (h : Hd K mg) : DefOk P w K mg base 3 3 "raw_even" g_raw_even :=
  def_ok (b := b_raw_even) (N := N_raw_even) (ps := ["slow", "stop", "lift"]) (st := s_raw_even) h.d_raw_even sc_raw_even rfl bi_raw_even (bd_raw_even h)
abbrev N_even_square : List Str := ["go", "slow", "stop", "lift"]
theorem sc_even_square : FnScope N_even_square ["go", "slow", "stop", "lift"] (defScope s_even_square) := ⟨rfl, rfl, rfl, by decide +kernel, rfl, by decide +kernel, by decide +kernel⟩
noncomputable def b_even_square : Sv := (sCons (sExpr (eCallN 4 g_check_four (aCons (eVar 0) (aCons (eVar 1) (aCons (eVar 2) (aCons (eVar 3) aNil))))))
  (sRet (eCallN 3 g_raw_even (aCons (eVar 1) (aCons (eVar 2) (aCons (eVar 3) aNil))))))
noncomputable def g_even_square : Fn := fnOf 4 b_even_square
theorem bd_even_square {P : Program} {w : World} {K : PySem.W.Frag} {mg : Str → Option Value} {base : Heap} (h : Hd K mg) (f : Addr) (cdv : Value) (B : Around) (fs : List PySem.Env) (s : Shared) (H : Hp) (E : XK) (cc : Cc (cxD P w K mg base N_even_square "even_square" s_even_square f cdv B fs s H E) (wD E) 4) : DB (cxD P w K mg base N_even_square "even_square" s_even_square f cdv B fs s H E) (wD E) (defBody s_even_square) b_even_square :=
  (db_cons (ds_expr (de_callD (ok_check_four h) cc (by decide) (by rfl) (da_cons (de_var 0) (da_cons (de_var 1) (da_cons (de_var 2) (da_cons (de_var 3) da_nil))))))
  (db_one (ds_ret (de_callD (ok_raw_even h) cc (by decide) (by rfl) (da_cons (de_var 1) (da_cons (de_var 2) (da_cons (de_var 3) da_nil)))))))
theorem bi_even_square (kV doc pm : Value) (an : Option Addr) (cdv ct : Value) (us : List Value) (hl : us.length = 4) : bindArgs (PySem.W.fnOf "even_square" "even_square" (defArgs s_even_square) (defBody s_even_square) (defScope s_even_square) .none kV doc pm an cdv ct) ⟨us, []⟩ = pure ((["go", "slow", "stop", "lift"] : List Str).zip us) := match us, hl with | [_, _, _, _], _ => rfl
theorem ok_even_square {P : Program} {w : World} {K : PySem.W.Frag} {mg : Str → Option Value} {base : Heap} (h : Hd K mg) : DefOk P w K mg base 5 4 "even_square" g_even_square :=
  def_ok (b := b_even_square) (N := N_even_square) (ps := ["go", "slow", "stop", "lift"]) (st := s_even_square) h.d_even_square sc_even_square rfl bi_even_square (bd_even_square h)
abbrev N_plus : List Str := ["one", "other"]
theorem sc_plus : FnScope N_plus ["one", "other"] (defScope s_plus) := ⟨rfl, rfl, rfl, by decide +kernel, rfl, by decide +kernel, by decide +kernel⟩
noncomputable def b_plus : Sv := (sRet (eCallN 2 g_fraction (aCons (eBin (oAdd false) (eBin (oMul false) (eBin oIx (eVar 0) (eD (.int 0))) (eBin oIx (eVar 1) (eD (.int 1)))) (eBin (oMul false) (eBin oIx (eVar 1) (eD (.int 0))) (eBin oIx (eVar 0) (eD (.int 1))))) (aCons (eBin (oMul false) (eBin oIx (eVar 0) (eD (.int 1))) (eBin oIx (eVar 1) (eD (.int 1)))) aNil))))
noncomputable def g_plus : Fn := fnOf 2 b_plus
theorem bd_plus {P : Program} {w : World} {K : PySem.W.Frag} {mg : Str → Option Value} {base : Heap} (h : Hd K mg) (f : Addr) (cdv : Value) (B : Around) (fs : List PySem.Env) (s : Shared) (H : Hp) (E : XK) (cc : Cc (cxD P w K mg base N_plus "plus" s_plus f cdv B fs s H E) (wD E) 2) : DB (cxD P w K mg base N_plus "plus" s_plus f cdv B fs s H E) (wD E) (defBody s_plus) b_plus :=
  (db_one (ds_ret (de_callD (ok_fraction h) cc (by decide) (by rfl) (da_cons (de_bin op_addX ok_add (de_bin op_mulX' ok_mul (de_ix (j := 0) (de_var 0) de_int) (de_ix (j := 0) (de_var 1) de_int)) (de_bin op_mulX' ok_mul (de_ix (j := 0) (de_var 1) de_int) (de_ix (j := 0) (de_var 0) de_int))) (da_cons (de_bin op_mulX' ok_mul (de_ix (j := 0) (de_var 0) de_int) (de_ix (j := 0) (de_var 1) de_int)) da_nil)))))
theorem bi_plus (kV doc pm : Value) (an : Option Addr) (cdv ct : Value) (us : List Value) (hl : us.length = 2) : bindArgs (PySem.W.fnOf "plus" "plus" (defArgs s_plus) (defBody s_plus) (defScope s_plus) .none kV doc pm an cdv ct) ⟨us, []⟩ = pure ((["one", "other"] : List Str).zip us) := match us, hl with | [_, _], _ => rfl
theorem ok_plus {P : Program} {w : World} {K : PySem.W.Frag} {mg : Str → Option Value} {base : Heap} (h : Hd K mg) : DefOk P w K mg base 3 2 "plus" g_plus :=
  def_ok (b := b_plus) (N := N_plus) (ps := ["one", "other"]) (st := s_plus) h.d_plus sc_plus rfl bi_plus (bd_plus h)
abbrev N_raw_needed : List Str := ["go", "slow", "stop", "lift", "even"]
theorem sc_raw_needed : FnScope N_raw_needed ["go", "slow", "stop", "lift"] (defScope s_raw_needed) := ⟨rfl, rfl, rfl, by decide +kernel, rfl, by decide +kernel, by decide +kernel⟩
noncomputable def b_raw_needed : Sv := (sCons (sSet 4 (eCallN 3 g_raw_even (aCons (eVar 1) (aCons (eVar 2) (aCons (eVar 3) aNil)))))
  (sRet (eCallN 2 g_plus (aCons (eCallN 3 g_way_between (aCons (eTup (aCons (eD (.int 0)) (aCons (eD (.int 1)) aNil))) (aCons (eVar 4) (aCons (eVar 0) aNil)))) (aCons (eCallN 3 g_way_between (aCons (eTup (aCons (eD (.int 0)) (aCons (eD (.int 1)) aNil))) (aCons (eVar 4) (aCons (eVar 2) aNil)))) aNil)))))
noncomputable def g_raw_needed : Fn := fnOf 5 b_raw_needed
theorem bd_raw_needed {P : Program} {w : World} {K : PySem.W.Frag} {mg : Str → Option Value} {base : Heap} (h : Hd K mg) (f : Addr) (cdv : Value) (B : Around) (fs : List PySem.Env) (s : Shared) (H : Hp) (E : XK) (cc : Cc (cxD P w K mg base N_raw_needed "raw_needed" s_raw_needed f cdv B fs s H E) (wD E) 4) : DB (cxD P w K mg base N_raw_needed "raw_needed" s_raw_needed f cdv B fs s H E) (wD E) (defBody s_raw_needed) b_raw_needed :=
  (db_cons (ds_set 4 cc.nd rfl (.inl rfl) (de_callD (ok_raw_even h) cc (by decide) (by rfl) (da_cons (de_var 1) (da_cons (de_var 2) (da_cons (de_var 3) da_nil)))))
  (db_one (ds_ret (de_callD (ok_plus h) cc (by decide) (by rfl) (da_cons (de_callD (ok_way_between h) cc (by decide) (by rfl) (da_cons (de_tup (da_cons de_int (da_cons de_int da_nil))) (da_cons (de_var 4) (da_cons (de_var 0) da_nil)))) (da_cons (de_callD (ok_way_between h) cc (by decide) (by rfl) (da_cons (de_tup (da_cons de_int (da_cons de_int da_nil))) (da_cons (de_var 4) (da_cons (de_var 2) da_nil)))) da_nil))))))
theorem bi_raw_needed (kV doc pm : Value) (an : Option Addr) (cdv ct : Value) (us : List Value) (hl : us.length = 4) : bindArgs (PySem.W.fnOf "raw_needed" "raw_needed" (defArgs s_raw_needed) (defBody s_raw_needed) (defScope s_raw_needed) .none kV doc pm an cdv ct) ⟨us, []⟩ = pure ((["go", "slow", "stop", "lift"] : List Str).zip us) := match us, hl with | [_, _, _, _], _ => rfl
theorem ok_raw_needed {P : Program} {w : World} {K : PySem.W.Frag} {mg : Str → Option Value} {base : Heap} (h : Hd K mg) : DefOk P w K mg base 5 4 "raw_needed" g_raw_needed :=
  def_ok (b := b_raw_needed) (N := N_raw_needed) (ps := ["go", "slow", "stop", "lift"]) (st := s_raw_needed) h.d_raw_needed sc_raw_needed rfl bi_raw_needed (bd_raw_needed h)
abbrev N_needed : List Str := ["go", "slow", "stop", "lift"]
theorem sc_needed : FnScope N_needed ["go", "slow", "stop", "lift"] (defScope s_needed) := ⟨rfl, rfl, rfl, by decide +kernel, rfl, by decide +kernel, by decide +kernel⟩
noncomputable def b_needed : Sv := (sCons (sExpr (eCallN 4 g_check_four (aCons (eVar 0) (aCons (eVar 1) (aCons (eVar 2) (aCons (eVar 3) aNil))))))
  (sRet (eCallN 4 g_raw_needed (aCons (eVar 0) (aCons (eVar 1) (aCons (eVar 2) (aCons (eVar 3) aNil)))))))
noncomputable def g_needed : Fn := fnOf 4 b_needed
theorem bd_needed {P : Program} {w : World} {K : PySem.W.Frag} {mg : Str → Option Value} {base : Heap} (h : Hd K mg) (f : Addr) (cdv : Value) (B : Around) (fs : List PySem.Env) (s : Shared) (H : Hp) (E : XK) (cc : Cc (cxD P w K mg base N_needed "needed" s_needed f cdv B fs s H E) (wD E) 5) : DB (cxD P w K mg base N_needed "needed" s_needed f cdv B fs s H E) (wD E) (defBody s_needed) b_needed :=
  (db_cons (ds_expr (de_callD (ok_check_four h) cc (by decide) (by rfl) (da_cons (de_var 0) (da_cons (de_var 1) (da_cons (de_var 2) (da_cons (de_var 3) da_nil))))))
  (db_one (ds_ret (de_callD (ok_raw_needed h) cc (by decide) (by rfl) (da_cons (de_var 0) (da_cons (de_var 1) (da_cons (de_var 2) (da_cons (de_var 3) da_nil))))))))
theorem bi_needed (kV doc pm : Value) (an : Option Addr) (cdv ct : Value) (us : List Value) (hl : us.length = 4) : bindArgs (PySem.W.fnOf "needed" "needed" (defArgs s_needed) (defBody s_needed) (defScope s_needed) .none kV doc pm an cdv ct) ⟨us, []⟩ = pure ((["go", "slow", "stop", "lift"] : List Str).zip us) := match us, hl with | [_, _, _, _], _ => rfl
theorem ok_needed {P : Program} {w : World} {K : PySem.W.Frag} {mg : Str → Option Value} {base : Heap} (h : Hd K mg) : DefOk P w K mg base 6 4 "needed" g_needed :=
  def_ok (b := b_needed) (N := N_needed) (ps := ["go", "slow", "stop", "lift"]) (st := s_needed) h.d_needed sc_needed rfl bi_needed (bd_needed h)
abbrev N_can_use : List Str := ["length", "go", "slow", "stop", "lift", "need"]
theorem sc_can_use : FnScope N_can_use ["length", "go", "slow", "stop", "lift"] (defScope s_can_use) := ⟨rfl, rfl, rfl, by decide +kernel, rfl, by decide +kernel, by decide +kernel⟩
noncomputable def b_can_use : Sv := (sCons (sExpr (eCallN 1 g_check_numbers (aCons (eTup (aCons (eVar 0) aNil)) aNil)))
  (sCons (sExpr (eCallN 4 g_check_four (aCons (eVar 1) (aCons (eVar 2) (aCons (eVar 3) (aCons (eVar 4) aNil))))))
  (sCons (sSet 5 (eCallN 4 g_raw_needed (aCons (eVar 1) (aCons (eVar 2) (aCons (eVar 3) (aCons (eVar 4) aNil))))))
  (sRet (eBin oLe (eBin oIx (eVar 5) (eD (.int 0))) (eBin (oMul false) (eVar 0) (eBin oIx (eVar 5) (eD (.int 1)))))))))
noncomputable def g_can_use : Fn := fnOf 6 b_can_use
theorem bd_can_use {P : Program} {w : World} {K : PySem.W.Frag} {mg : Str → Option Value} {base : Heap} (h : Hd K mg) (f : Addr) (cdv : Value) (B : Around) (fs : List PySem.Env) (s : Shared) (H : Hp) (E : XK) (cc : Cc (cxD P w K mg base N_can_use "can_use" s_can_use f cdv B fs s H E) (wD E) 5) : DB (cxD P w K mg base N_can_use "can_use" s_can_use f cdv B fs s H E) (wD E) (defBody s_can_use) b_can_use :=
  (db_cons (ds_expr (de_callD (ok_check_numbers h) cc (by decide) (by rfl) (da_cons (de_tup (da_cons (de_var 0) da_nil)) da_nil)))
  (db_cons (ds_expr (de_callD (ok_check_four h) cc (by decide) (by rfl) (da_cons (de_var 1) (da_cons (de_var 2) (da_cons (de_var 3) (da_cons (de_var 4) da_nil))))))
  (db_cons (ds_set 5 cc.nd rfl (.inl rfl) (de_callD (ok_raw_needed h) cc (by decide) (by rfl) (da_cons (de_var 1) (da_cons (de_var 2) (da_cons (de_var 3) (da_cons (de_var 4) da_nil))))))
  (db_one (ds_ret (de_cmp (op_leX cc.hu) ok_le (de_ix (j := 0) (de_var 5) de_int) (de_bin op_mulX' ok_mul (de_var 0) (de_ix (j := 0) (de_var 5) de_int)) (nomark _)))))))
theorem bi_can_use (kV doc pm : Value) (an : Option Addr) (cdv ct : Value) (us : List Value) (hl : us.length = 5) : bindArgs (PySem.W.fnOf "can_use" "can_use" (defArgs s_can_use) (defBody s_can_use) (defScope s_can_use) .none kV doc pm an cdv ct) ⟨us, []⟩ = pure ((["length", "go", "slow", "stop", "lift"] : List Str).zip us) := match us, hl with | [_, _, _, _, _], _ => rfl
theorem ok_can_use {P : Program} {w : World} {K : PySem.W.Frag} {mg : Str → Option Value} {base : Heap} (h : Hd K mg) : DefOk P w K mg base 6 5 "can_use" g_can_use :=
  def_ok (b := b_can_use) (N := N_can_use) (ps := ["length", "go", "slow", "stop", "lift"]) (st := s_can_use) h.d_can_use sc_can_use rfl bi_can_use (bd_can_use h)
abbrev N_gone_on : List Str := ["go", "slow", "lift", "speed"]
theorem sc_gone_on : FnScope N_gone_on ["go", "slow", "lift", "speed"] (defScope s_gone_on) := ⟨rfl, rfl, rfl, by decide +kernel, rfl, by decide +kernel, by decide +kernel⟩
noncomputable def b_gone_on : Sv := (sCons (sExpr (eCallN 1 g_check_numbers (aCons (eTup (aCons (eVar 0) (aCons (eVar 1) aNil))) aNil)))
  (sCons (sExpr (eCallN 2 g_check_slow (aCons (eVar 0) (aCons (eVar 1) aNil))))
  (sCons (sExpr (eCallN 1 g_check_numbers (aCons (eTup (aCons (eVar 2) (aCons (eVar 3) aNil))) aNil)))
  (sCons (sIf (tOf (eBin oGt (eVar 3) (eVar 2)))
  (sRaise "NoNumber")
  sNil)
  (sRet (eCallN 2 g_plus (aCons (eCallN 3 g_way_between (aCons (eTup (aCons (eD (.int 0)) (aCons (eD (.int 1)) aNil))) (aCons (eCallN 1 g_square_of (aCons (eVar 3) aNil)) (aCons (eVar 0) aNil)))) (aCons (eCallN 3 g_way_between (aCons (eCallN 1 g_square_of (aCons (eVar 3) aNil)) (aCons (eCallN 1 g_square_of (aCons (eVar 2) aNil)) (aCons (eVar 1) aNil)))) aNil))))))))
noncomputable def g_gone_on : Fn := fnOf 4 b_gone_on
theorem bd_gone_on {P : Program} {w : World} {K : PySem.W.Frag} {mg : Str → Option Value} {base : Heap} (h : Hd K mg) (f : Addr) (cdv : Value) (B : Around) (fs : List PySem.Env) (s : Shared) (H : Hp) (E : XK) (cc : Cc (cxD P w K mg base N_gone_on "gone_on" s_gone_on f cdv B fs s H E) (wD E) 4) : DB (cxD P w K mg base N_gone_on "gone_on" s_gone_on f cdv B fs s H E) (wD E) (defBody s_gone_on) b_gone_on :=
  (db_cons (ds_expr (de_callD (ok_check_numbers h) cc (by decide) (by rfl) (da_cons (de_tup (da_cons (de_var 0) (da_cons (de_var 1) da_nil))) da_nil)))
  (db_cons (ds_expr (de_callD (ok_check_slow h) cc (by decide) (by rfl) (da_cons (de_var 0) (da_cons (de_var 1) da_nil))))
  (db_cons (ds_expr (de_callD (ok_check_numbers h) cc (by decide) (by rfl) (da_cons (de_tup (da_cons (de_var 2) (da_cons (de_var 3) da_nil))) da_nil)))
  (db_cons (ds_if (dt_cmp (op_gtX cc.hu) ok_gt (de_var 3) (de_var 2) (nomark _))
  (db_one (ds_raise0 cc h.e_NoNumber (by rfl)))
  db_nil)
  (db_one (ds_ret (de_callD (ok_plus h) cc (by decide) (by rfl) (da_cons (de_callD (ok_way_between h) cc (by decide) (by rfl) (da_cons (de_tup (da_cons de_int (da_cons de_int da_nil))) (da_cons (de_callD (ok_square_of h) cc (by decide) (by rfl) (da_cons (de_var 3) da_nil)) (da_cons (de_var 0) da_nil)))) (da_cons (de_callD (ok_way_between h) cc (by decide) (by rfl) (da_cons (de_callD (ok_square_of h) cc (by decide) (by rfl) (da_cons (de_var 3) da_nil)) (da_cons (de_callD (ok_square_of h) cc (by decide) (by rfl) (da_cons (de_var 2) da_nil)) (da_cons (de_var 1) da_nil)))) da_nil)))))))))
theorem bi_gone_on (kV doc pm : Value) (an : Option Addr) (cdv ct : Value) (us : List Value) (hl : us.length = 4) : bindArgs (PySem.W.fnOf "gone_on" "gone_on" (defArgs s_gone_on) (defBody s_gone_on) (defScope s_gone_on) .none kV doc pm an cdv ct) ⟨us, []⟩ = pure ((["go", "slow", "lift", "speed"] : List Str).zip us) := match us, hl with | [_, _, _, _], _ => rfl
theorem ok_gone_on {P : Program} {w : World} {K : PySem.W.Frag} {mg : Str → Option Value} {base : Heap} (h : Hd K mg) : DefOk P w K mg base 5 4 "gone_on" g_gone_on :=
  def_ok (b := b_gone_on) (N := N_gone_on) (ps := ["go", "slow", "lift", "speed"]) (st := s_gone_on) h.d_gone_on sc_gone_on rfl bi_gone_on (bd_gone_on h)
abbrev N_given_up : List Str := ["go", "stop", "speed"]
theorem sc_given_up : FnScope N_given_up ["go", "stop", "speed"] (defScope s_given_up) := ⟨rfl, rfl, rfl, by decide +kernel, rfl, by decide +kernel, by decide +kernel⟩
noncomputable def b_given_up : Sv := (sCons (sExpr (eCallN 1 g_check_numbers (aCons (eTup (aCons (eVar 0) (aCons (eVar 1) (aCons (eVar 2) aNil)))) aNil)))
  (sRet (eCallN 2 g_plus (aCons (eCallN 3 g_way_between (aCons (eTup (aCons (eD (.int 0)) (aCons (eD (.int 1)) aNil))) (aCons (eCallN 1 g_square_of (aCons (eVar 2) aNil)) (aCons (eVar 0) aNil)))) (aCons (eCallN 3 g_way_between (aCons (eTup (aCons (eD (.int 0)) (aCons (eD (.int 1)) aNil))) (aCons (eCallN 1 g_square_of (aCons (eVar 2) aNil)) (aCons (eVar 1) aNil)))) aNil)))))
noncomputable def g_given_up : Fn := fnOf 3 b_given_up
theorem bd_given_up {P : Program} {w : World} {K : PySem.W.Frag} {mg : Str → Option Value} {base : Heap} (h : Hd K mg) (f : Addr) (cdv : Value) (B : Around) (fs : List PySem.Env) (s : Shared) (H : Hp) (E : XK) (cc : Cc (cxD P w K mg base N_given_up "given_up" s_given_up f cdv B fs s H E) (wD E) 4) : DB (cxD P w K mg base N_given_up "given_up" s_given_up f cdv B fs s H E) (wD E) (defBody s_given_up) b_given_up :=
  (db_cons (ds_expr (de_callD (ok_check_numbers h) cc (by decide) (by rfl) (da_cons (de_tup (da_cons (de_var 0) (da_cons (de_var 1) (da_cons (de_var 2) da_nil)))) da_nil)))
  (db_one (ds_ret (de_callD (ok_plus h) cc (by decide) (by rfl) (da_cons (de_callD (ok_way_between h) cc (by decide) (by rfl) (da_cons (de_tup (da_cons de_int (da_cons de_int da_nil))) (da_cons (de_callD (ok_square_of h) cc (by decide) (by rfl) (da_cons (de_var 2) da_nil)) (da_cons (de_var 0) da_nil)))) (da_cons (de_callD (ok_way_between h) cc (by decide) (by rfl) (da_cons (de_tup (da_cons de_int (da_cons de_int da_nil))) (da_cons (de_callD (ok_square_of h) cc (by decide) (by rfl) (da_cons (de_var 2) da_nil)) (da_cons (de_var 1) da_nil)))) da_nil))))))
theorem bi_given_up (kV doc pm : Value) (an : Option Addr) (cdv ct : Value) (us : List Value) (hl : us.length = 3) : bindArgs (PySem.W.fnOf "given_up" "given_up" (defArgs s_given_up) (defBody s_given_up) (defScope s_given_up) .none kV doc pm an cdv ct) ⟨us, []⟩ = pure ((["go", "stop", "speed"] : List Str).zip us) := match us, hl with | [_, _, _], _ => rfl
theorem ok_given_up {P : Program} {w : World} {K : PySem.W.Frag} {mg : Str → Option Value} {base : Heap} (h : Hd K mg) : DefOk P w K mg base 5 3 "given_up" g_given_up :=
  def_ok (b := b_given_up) (N := N_given_up) (ps := ["go", "stop", "speed"]) (st := s_given_up) h.d_given_up sc_given_up rfl bi_given_up (bd_given_up h)
abbrev N_stop_from : List Str := ["stop", "speed"]
theorem sc_stop_from : FnScope N_stop_from ["stop", "speed"] (defScope s_stop_from) := ⟨rfl, rfl, rfl, by decide +kernel, rfl, by decide +kernel, by decide +kernel⟩
noncomputable def b_stop_from : Sv := (sCons (sExpr (eCallN 1 g_check_numbers (aCons (eTup (aCons (eVar 0) (aCons (eVar 1) aNil))) aNil)))
  (sRet (eCallN 3 g_way_between (aCons (eTup (aCons (eD (.int 0)) (aCons (eD (.int 1)) aNil))) (aCons (eCallN 1 g_square_of (aCons (eVar 1) aNil)) (aCons (eVar 0) aNil))))))
noncomputable def g_stop_from : Fn := fnOf 2 b_stop_from
theorem bd_stop_from {P : Program} {w : World} {K : PySem.W.Frag} {mg : Str → Option Value} {base : Heap} (h : Hd K mg) (f : Addr) (cdv : Value) (B : Around) (fs : List PySem.Env) (s : Shared) (H : Hp) (E : XK) (cc : Cc (cxD P w K mg base N_stop_from "stop_from" s_stop_from f cdv B fs s H E) (wD E) 4) : DB (cxD P w K mg base N_stop_from "stop_from" s_stop_from f cdv B fs s H E) (wD E) (defBody s_stop_from) b_stop_from :=
  (db_cons (ds_expr (de_callD (ok_check_numbers h) cc (by decide) (by rfl) (da_cons (de_tup (da_cons (de_var 0) (da_cons (de_var 1) da_nil))) da_nil)))
  (db_one (ds_ret (de_callD (ok_way_between h) cc (by decide) (by rfl) (da_cons (de_tup (da_cons de_int (da_cons de_int da_nil))) (da_cons (de_callD (ok_square_of h) cc (by decide) (by rfl) (da_cons (de_var 1) da_nil)) (da_cons (de_var 0) da_nil)))))))
theorem bi_stop_from (kV doc pm : Value) (an : Option Addr) (cdv ct : Value) (us : List Value) (hl : us.length = 2) : bindArgs (PySem.W.fnOf "stop_from" "stop_from" (defArgs s_stop_from) (defBody s_stop_from) (defScope s_stop_from) .none kV doc pm an cdv ct) ⟨us, []⟩ = pure ((["stop", "speed"] : List Str).zip us) := match us, hl with | [_, _], _ => rfl
theorem ok_stop_from {P : Program} {w : World} {K : PySem.W.Frag} {mg : Str → Option Value} {base : Heap} (h : Hd K mg) : DefOk P w K mg base 5 2 "stop_from" g_stop_from :=
  def_ok (b := b_stop_from) (N := N_stop_from) (ps := ["stop", "speed"]) (st := s_stop_from) h.d_stop_from sc_stop_from rfl bi_stop_from (bd_stop_from h)
abbrev N__law_draw : List Str := ["hand", "size", "cell", "digit", "number"]
theorem sc__law_draw : FnScope N__law_draw ["hand", "size"] (defScope s__law_draw) := ⟨rfl, rfl, rfl, by decide +kernel, rfl, by decide +kernel, by decide +kernel⟩
noncomputable def b__law_draw : Sv := (sCons (sIf (tAnd (tOf (eBin oEq (eBin oIx (eVar 0) (eD (.int 2))) (eD (.int 0)))) (tOf (eBin oLt (eBin oIx (eVar 0) (eD (.int 1))) (eCall fLen (aCons (eBin oIx (eVar 0) (eD (.int 0))) aNil)))))
  (sCons (sSet 2 (eBin oIx (eBin oIx (eVar 0) (eD (.int 0))) (eBin oIx (eVar 0) (eD (.int 1)))))
  (sCons (sPut (eVar 0) (eD (.int 1)) (eBin (oAdd false) (eBin oIx (eVar 0) (eD (.int 1))) (eD (.int 1))))
  (sCons (sPut (eVar 0) (eD (.int 3)) (eBin oMod (eCall fInt (aCons (eBin (oAdd false) (eBin (oAdd false) (eBin (oMul false) (eBin oIx (eVar 0) (eD (.int 3))) (eD (.int 69621))) (eBin (oMul false) (eVar 2) (eD (.int 40692)))) (eD (.int 29))) aNil)) (eD (.int 2147483629))))
  (sIf (tOf (eBin oGe (eVar 2) (eBin oPow (eD (.int 10)) (eD (.int 18)))))
  (sPut (eVar 0) (eD (.int 2)) (eVar 2))
  sNil))))
  sNil)
  (sCons (sIf (tOf (eBin oGt (eBin oIx (eVar 0) (eD (.int 2))) (eD (.int 0))))
  (sCons (sSet 3 (eBin oMod (eCall fInt (aCons (eBin oIx (eVar 0) (eD (.int 2))) aNil)) (eVar 1)))
  (sCons (sPut (eVar 0) (eD (.int 2)) (eBin oDiv (eBin oIx (eVar 0) (eD (.int 2))) (eVar 1)))
  (sRet (eVar 3))))
  sNil)
  (sCons (sPut (eVar 0) (eD (.int 4)) (eBin (oAdd false) (eBin oIx (eVar 0) (eD (.int 4))) (eD (.int 1))))
  (sCons (sSet 4 (eBin oMod (eCall fInt (aCons (eBin (oMul false) (eCall fInt (aCons (eBin (oAdd false) (eBin oIx (eVar 0) (eD (.int 3))) (eBin (oMul false) (eD (.int 7919)) (eBin oIx (eVar 0) (eD (.int 4))))) aNil)) (eD (.int 48271))) aNil)) (eD (.int 2147483647))))
  (sCons (sSet 4 (eBin oMod (eCall fInt (aCons (eBin (oMul false) (eVar 4) (eBin (oAdd false) (eBin oDiv (eVar 4) (eD (.int 1009))) (eD (.int 69621)))) aNil)) (eD (.int 2147483647))))
  (sCons (sSet 4 (eBin oMod (eCall fInt (aCons (eBin (oMul false) (eVar 4) (eBin (oAdd false) (eBin oDiv (eVar 4) (eD (.int 2003))) (eD (.int 40014)))) aNil)) (eD (.int 2147483563))))
  (sRet (eBin oMod (eCall fInt (aCons (eBin oDiv (eVar 4) (eD (.int 16))) aNil)) (eVar 1)))))))))
noncomputable def g__law_draw : Fn := fnOf 5 b__law_draw
theorem bd__law_draw {P : Program} {w : World} {K : PySem.W.Frag} {mg : Str → Option Value} {base : Heap} (h : Hd K mg) (f : Addr) (cdv : Value) (B : Around) (fs : List PySem.Env) (s : Shared) (H : Hp) (E : XK) (cc : Cc (cxD P w K mg base N__law_draw "_law_draw" s__law_draw f cdv B fs s H E) (wD E) 0) : DB (cxD P w K mg base N__law_draw "_law_draw" s__law_draw f cdv B fs s H E) (wD E) (defBody s__law_draw) b__law_draw :=
  (db_cons (ds_if (DW.t (dw_and (dt_cmp (op_eqX cc.hu) ok_eq (de_ix (j := 0) (de_var 0) de_int) de_int (nomark _)) (dw_one (dt_cmp (op_ltX cc.hu) ok_lt (de_ix (j := 0) (de_var 0) de_int) (de_callB call_lenX ok_len (by rfl) h.z_len bb_len (da_cons (de_ix (j := 0) (de_var 0) de_int) da_nil)) (nomark _)))))
  (db_cons (ds_set 2 cc.nd rfl (.inl rfl) (de_ix (j := 0) (de_ix (j := 0) (de_var 0) de_int) (de_ix (j := 0) (de_var 0) de_int)))
  (db_cons (ds_put (de_var 0) de_int (de_bin op_addX ok_add (de_ix (j := 0) (de_var 0) de_int) de_int))
  (db_cons (ds_put (de_var 0) de_int (de_bin op_modX ok_mod (de_callTy call_int1 ok_int (by rfl) h.z_int bb_int (da_cons (de_bin op_addX ok_add (de_bin op_addX ok_add (de_bin op_mulX' ok_mul (de_ix (j := 0) (de_var 0) de_int) de_int) (de_bin op_mulX' ok_mul (de_var 2) de_int)) de_int) da_nil)) de_int))
  (db_one (ds_if (dt_cmp (op_geX cc.hu) ok_ge (de_var 2) (de_bin op_pow ok_pow de_int de_int) (nomark _))
  (db_one (ds_put (de_var 0) de_int (de_var 2)))
  db_nil)))))
  db_nil)
  (db_cons (ds_if (dt_cmp (op_gtX cc.hu) ok_gt (de_ix (j := 0) (de_var 0) de_int) de_int (nomark _))
  (db_cons (ds_set 3 cc.nd rfl (.inl rfl) (de_bin op_modX ok_mod (de_callTy call_int1 ok_int (by rfl) h.z_int bb_int (da_cons (de_ix (j := 0) (de_var 0) de_int) da_nil)) (de_var 1)))
  (db_cons (ds_put (de_var 0) de_int (de_bin op_divX ok_div (de_ix (j := 0) (de_var 0) de_int) (de_var 1)))
  (db_one (ds_ret (de_var 3)))))
  db_nil)
  (db_cons (ds_put (de_var 0) de_int (de_bin op_addX ok_add (de_ix (j := 0) (de_var 0) de_int) de_int))
  (db_cons (ds_set 4 cc.nd rfl (.inl rfl) (de_bin op_modX ok_mod (de_callTy call_int1 ok_int (by rfl) h.z_int bb_int (da_cons (de_bin op_mulX' ok_mul (de_callTy call_int1 ok_int (by rfl) h.z_int bb_int (da_cons (de_bin op_addX ok_add (de_ix (j := 0) (de_var 0) de_int) (de_bin op_mulX' ok_mul de_int (de_ix (j := 0) (de_var 0) de_int))) da_nil)) de_int) da_nil)) de_int))
  (db_cons (ds_set 4 cc.nd rfl (.inl rfl) (de_bin op_modX ok_mod (de_callTy call_int1 ok_int (by rfl) h.z_int bb_int (da_cons (de_bin op_mulX' ok_mul (de_var 4) (de_bin op_addX ok_add (de_bin op_divX ok_div (de_var 4) de_int) de_int)) da_nil)) de_int))
  (db_cons (ds_set 4 cc.nd rfl (.inl rfl) (de_bin op_modX ok_mod (de_callTy call_int1 ok_int (by rfl) h.z_int bb_int (da_cons (de_bin op_mulX' ok_mul (de_var 4) (de_bin op_addX ok_add (de_bin op_divX ok_div (de_var 4) de_int) de_int)) da_nil)) de_int))
  (db_one (ds_ret (de_bin op_modX ok_mod (de_callTy call_int1 ok_int (by rfl) h.z_int bb_int (da_cons (de_bin op_divX ok_div (de_var 4) de_int) da_nil)) (de_var 1))))))))))
theorem bi__law_draw (kV doc pm : Value) (an : Option Addr) (cdv ct : Value) (us : List Value) (hl : us.length = 2) : bindArgs (PySem.W.fnOf "_law_draw" "_law_draw" (defArgs s__law_draw) (defBody s__law_draw) (defScope s__law_draw) .none kV doc pm an cdv ct) ⟨us, []⟩ = pure ((["hand", "size"] : List Str).zip us) := match us, hl with | [_, _], _ => rfl
theorem ok__law_draw {P : Program} {w : World} {K : PySem.W.Frag} {mg : Str → Option Value} {base : Heap} (h : Hd K mg) : DefOk P w K mg base 1 2 "_law_draw" g__law_draw :=
  def_ok (b := b__law_draw) (N := N__law_draw) (ps := ["hand", "size"]) (st := s__law_draw) h.d__law_draw sc__law_draw rfl bi__law_draw (bd__law_draw h)
abbrev N__law_frac : List Str := ["top", "bottom", "one", "part"]
theorem sc__law_frac : FnScope N__law_frac ["top", "bottom"] (defScope s__law_frac) := ⟨rfl, rfl, rfl, by decide +kernel, rfl, by decide +kernel, by decide +kernel⟩
noncomputable def l0__law_frac : Tv := (tOf (eBin oGt (eVar 2) (eD (.int 0))))
noncomputable def l1__law_frac : Sv := (sPar [(gN 2), (gN 3)] (aCons (eBin oMod (eCall fInt (aCons (eVar 3) aNil)) (eVar 2)) (aCons (eVar 2) aNil)))
noncomputable def b__law_frac : Sv := (sCons (sPar [(gN 2), (gN 3)] (aCons (eCall fAbs (aCons (eVar 0) aNil)) (aCons (eCall fAbs (aCons (eVar 1) aNil)) aNil)))
  (sCons (sWhile l0__law_frac l1__law_frac)
  (sCons (sSet 3 (eIf (tOf (eBin oGt (eVar 1) (eD (.int 0)))) (eVar 3) (eBin oSub (eD (.int 0)) (eVar 3))))
  (sRet (eTup (aCons (eBin oDiv (eVar 0) (eVar 3)) (aCons (eBin oDiv (eVar 1) (eVar 3)) aNil)))))))
noncomputable def g__law_frac : Fn := fnOf 4 b__law_frac
theorem bd__law_frac {P : Program} {w : World} {K : PySem.W.Frag} {mg : Str → Option Value} {base : Heap} (h : Hd K mg) (f : Addr) (cdv : Value) (B : Around) (fs : List PySem.Env) (s : Shared) (H : Hp) (E : XK) (cc : Cc (cxD P w K mg base N__law_frac "_law_frac" s__law_frac f cdv B fs s H E) (wD E) 0) : DB (cxD P w K mg base N__law_frac "_law_frac" s__law_frac f cdv B fs s H E) (wD E) (defBody s__law_frac) b__law_frac :=
  (db_cons (ds_par2 2 3 cc.calm cc.nd rfl rfl (by decide) rfl rfl (da_cons (de_callB call_abs ok_abs (by rfl) h.z_abs bb_abs (da_cons (de_var 0) da_nil)) (da_cons (de_callB call_abs ok_abs (by rfl) h.z_abs bb_abs (da_cons (de_var 1) da_nil)) da_nil)))
  (db_cons (ds_while cc (dt_cmp (op_gtX cc.hu) ok_gt (de_var 2) de_int (nomark _))
  (db_one (ds_par2 2 3 cc.calm cc.nd rfl rfl (by decide) rfl rfl (da_cons (de_bin op_modX ok_mod (de_callTy call_int1 ok_int (by rfl) h.z_int bb_int (da_cons (de_var 3) da_nil)) (de_var 2)) (da_cons (de_var 2) da_nil)))))
  (db_cons (ds_set 3 cc.nd rfl (.inl rfl) (de_if (dt_cmp (op_gtX cc.hu) ok_gt (de_var 1) de_int (nomark _)) (de_var 3) (de_bin op_sub ok_sub de_int (de_var 3))))
  (db_one (ds_ret (de_tup (da_cons (de_bin op_divX ok_div (de_var 0) (de_var 3)) (da_cons (de_bin op_divX ok_div (de_var 1) (de_var 3)) da_nil))))))))
theorem bi__law_frac (kV doc pm : Value) (an : Option Addr) (cdv ct : Value) (us : List Value) (hl : us.length = 2) : bindArgs (PySem.W.fnOf "_law_frac" "_law_frac" (defArgs s__law_frac) (defBody s__law_frac) (defScope s__law_frac) .none kV doc pm an cdv ct) ⟨us, []⟩ = pure ((["top", "bottom"] : List Str).zip us) := match us, hl with | [_, _], _ => rfl
theorem ok__law_frac {P : Program} {w : World} {K : PySem.W.Frag} {mg : Str → Option Value} {base : Heap} (h : Hd K mg) : DefOk P w K mg base 1 2 "_law_frac" g__law_frac :=
  def_ok (b := b__law_frac) (N := N__law_frac) (ps := ["top", "bottom"]) (st := s__law_frac) h.d__law_frac sc__law_frac rfl bi__law_frac (bd__law_frac h)
abbrev N__law_length : List Str := ["square", "by"]
theorem sc__law_length : FnScope N__law_length ["square", "by"] (defScope s__law_length) := ⟨rfl, rfl, rfl, by decide +kernel, rfl, by decide +kernel, by decide +kernel⟩
noncomputable def b__law_length : Sv := (sRet (eCallN 2 g__law_frac (aCons (eVar 0) (aCons (eBin (oMul false) (eD (.int 2)) (eVar 1)) aNil))))
noncomputable def g__law_length : Fn := fnOf 2 b__law_length
theorem bd__law_length {P : Program} {w : World} {K : PySem.W.Frag} {mg : Str → Option Value} {base : Heap} (h : Hd K mg) (f : Addr) (cdv : Value) (B : Around) (fs : List PySem.Env) (s : Shared) (H : Hp) (E : XK) (cc : Cc (cxD P w K mg base N__law_length "_law_length" s__law_length f cdv B fs s H E) (wD E) 1) : DB (cxD P w K mg base N__law_length "_law_length" s__law_length f cdv B fs s H E) (wD E) (defBody s__law_length) b__law_length :=
  (db_one (ds_ret (de_callD (ok__law_frac h) cc (by decide) (by rfl) (da_cons (de_var 0) (da_cons (de_bin op_mulX' ok_mul de_int (de_var 1)) da_nil)))))
theorem bi__law_length (kV doc pm : Value) (an : Option Addr) (cdv ct : Value) (us : List Value) (hl : us.length = 2) : bindArgs (PySem.W.fnOf "_law_length" "_law_length" (defArgs s__law_length) (defBody s__law_length) (defScope s__law_length) .none kV doc pm an cdv ct) ⟨us, []⟩ = pure ((["square", "by"] : List Str).zip us) := match us, hl with | [_, _], _ => rfl
theorem ok__law_length {P : Program} {w : World} {K : PySem.W.Frag} {mg : Str → Option Value} {base : Heap} (h : Hd K mg) : DefOk P w K mg base 2 2 "_law_length" g__law_length :=
  def_ok (b := b__law_length) (N := N__law_length) (ps := ["square", "by"]) (st := s__law_length) h.d__law_length sc__law_length rfl bi__law_length (bd__law_length h)
abbrev N__law_sign : List Str := ["one", "other", "apart_now"]
theorem sc__law_sign : FnScope N__law_sign ["one", "other"] (defScope s__law_sign) := ⟨rfl, rfl, rfl, by decide +kernel, rfl, by decide +kernel, by decide +kernel⟩
noncomputable def b__law_sign : Sv := (sCons (sSet 2 (eBin oSub (eBin (oMul false) (eBin oIx (eVar 0) (eD (.int 0))) (eBin oIx (eVar 1) (eD (.int 1)))) (eBin (oMul false) (eBin oIx (eVar 1) (eD (.int 0))) (eBin oIx (eVar 0) (eD (.int 1))))))
  (sRet (eBin oSub (eCall fInt (aCons (eBin oGt (eVar 2) (eD (.int 0))) aNil)) (eCall fInt (aCons (eBin oLt (eVar 2) (eD (.int 0))) aNil)))))
noncomputable def g__law_sign : Fn := fnOf 3 b__law_sign
theorem bd__law_sign {P : Program} {w : World} {K : PySem.W.Frag} {mg : Str → Option Value} {base : Heap} (h : Hd K mg) (f : Addr) (cdv : Value) (B : Around) (fs : List PySem.Env) (s : Shared) (H : Hp) (E : XK) (cc : Cc (cxD P w K mg base N__law_sign "_law_sign" s__law_sign f cdv B fs s H E) (wD E) 0) : DB (cxD P w K mg base N__law_sign "_law_sign" s__law_sign f cdv B fs s H E) (wD E) (defBody s__law_sign) b__law_sign :=
  (db_cons (ds_set 2 cc.nd rfl (.inl rfl) (de_bin op_sub ok_sub (de_bin op_mulX' ok_mul (de_ix (j := 0) (de_var 0) de_int) (de_ix (j := 0) (de_var 1) de_int)) (de_bin op_mulX' ok_mul (de_ix (j := 0) (de_var 1) de_int) (de_ix (j := 0) (de_var 0) de_int))))
  (db_one (ds_ret (de_bin op_sub ok_sub (de_callTy call_int1 ok_int (by rfl) h.z_int bb_int (da_cons (de_cmp (op_gtX cc.hu) ok_gt (de_var 2) de_int (nomark _)) da_nil)) (de_callTy call_int1 ok_int (by rfl) h.z_int bb_int (da_cons (de_cmp (op_ltX cc.hu) ok_lt (de_var 2) de_int (nomark _)) da_nil))))))
theorem bi__law_sign (kV doc pm : Value) (an : Option Addr) (cdv ct : Value) (us : List Value) (hl : us.length = 2) : bindArgs (PySem.W.fnOf "_law_sign" "_law_sign" (defArgs s__law_sign) (defBody s__law_sign) (defScope s__law_sign) .none kV doc pm an cdv ct) ⟨us, []⟩ = pure ((["one", "other"] : List Str).zip us) := match us, hl with | [_, _], _ => rfl
theorem ok__law_sign {P : Program} {w : World} {K : PySem.W.Frag} {mg : Str → Option Value} {base : Heap} (h : Hd K mg) : DefOk P w K mg base 1 2 "_law_sign" g__law_sign :=
  def_ok (b := b__law_sign) (N := N__law_sign) (ps := ["one", "other"]) (st := s__law_sign) h.d__law_sign sc__law_sign rfl bi__law_sign (bd__law_sign h)
abbrev N__law_plus : List Str := ["one", "other"]
theorem sc__law_plus : FnScope N__law_plus ["one", "other"] (defScope s__law_plus) := ⟨rfl, rfl, rfl, by decide +kernel, rfl, by decide +kernel, by decide +kernel⟩
noncomputable def b__law_plus : Sv := (sRet (eCallN 2 g__law_frac (aCons (eBin (oAdd false) (eBin (oMul false) (eBin oIx (eVar 0) (eD (.int 0))) (eBin oIx (eVar 1) (eD (.int 1)))) (eBin (oMul false) (eBin oIx (eVar 1) (eD (.int 0))) (eBin oIx (eVar 0) (eD (.int 1))))) (aCons (eBin (oMul false) (eBin oIx (eVar 0) (eD (.int 1))) (eBin oIx (eVar 1) (eD (.int 1)))) aNil))))
noncomputable def g__law_plus : Fn := fnOf 2 b__law_plus
theorem bd__law_plus {P : Program} {w : World} {K : PySem.W.Frag} {mg : Str → Option Value} {base : Heap} (h : Hd K mg) (f : Addr) (cdv : Value) (B : Around) (fs : List PySem.Env) (s : Shared) (H : Hp) (E : XK) (cc : Cc (cxD P w K mg base N__law_plus "_law_plus" s__law_plus f cdv B fs s H E) (wD E) 1) : DB (cxD P w K mg base N__law_plus "_law_plus" s__law_plus f cdv B fs s H E) (wD E) (defBody s__law_plus) b__law_plus :=
  (db_one (ds_ret (de_callD (ok__law_frac h) cc (by decide) (by rfl) (da_cons (de_bin op_addX ok_add (de_bin op_mulX' ok_mul (de_ix (j := 0) (de_var 0) de_int) (de_ix (j := 0) (de_var 1) de_int)) (de_bin op_mulX' ok_mul (de_ix (j := 0) (de_var 1) de_int) (de_ix (j := 0) (de_var 0) de_int))) (da_cons (de_bin op_mulX' ok_mul (de_ix (j := 0) (de_var 0) de_int) (de_ix (j := 0) (de_var 1) de_int)) da_nil)))))
theorem bi__law_plus (kV doc pm : Value) (an : Option Addr) (cdv ct : Value) (us : List Value) (hl : us.length = 2) : bindArgs (PySem.W.fnOf "_law_plus" "_law_plus" (defArgs s__law_plus) (defBody s__law_plus) (defScope s__law_plus) .none kV doc pm an cdv ct) ⟨us, []⟩ = pure ((["one", "other"] : List Str).zip us) := match us, hl with | [_, _], _ => rfl
theorem ok__law_plus {P : Program} {w : World} {K : PySem.W.Frag} {mg : Str → Option Value} {base : Heap} (h : Hd K mg) : DefOk P w K mg base 2 2 "_law_plus" g__law_plus :=
  def_ok (b := b__law_plus) (N := N__law_plus) (ps := ["one", "other"]) (st := s__law_plus) h.d__law_plus sc__law_plus rfl bi__law_plus (bd__law_plus h)
abbrev N__law_some : List Str := ["hand", "things"]
theorem sc__law_some : FnScope N__law_some ["hand", "things"] (defScope s__law_some) := ⟨rfl, rfl, rfl, by decide +kernel, rfl, by decide +kernel, by decide +kernel⟩
noncomputable def b__law_some : Sv := (sRet (eBin oIx (eVar 1) (eCallN 2 g__law_draw (aCons (eVar 0) (aCons (eCall fLen (aCons (eVar 1) aNil)) aNil)))))
noncomputable def g__law_some : Fn := fnOf 2 b__law_some
theorem bd__law_some {P : Program} {w : World} {K : PySem.W.Frag} {mg : Str → Option Value} {base : Heap} (h : Hd K mg) (f : Addr) (cdv : Value) (B : Around) (fs : List PySem.Env) (s : Shared) (H : Hp) (E : XK) (cc : Cc (cxD P w K mg base N__law_some "_law_some" s__law_some f cdv B fs s H E) (wD E) 1) : DB (cxD P w K mg base N__law_some "_law_some" s__law_some f cdv B fs s H E) (wD E) (defBody s__law_some) b__law_some :=
  (db_one (ds_ret (de_ix (j := 0) (de_var 1) (de_callD (ok__law_draw h) cc (by decide) (by rfl) (da_cons (de_var 0) (da_cons (de_callB call_lenX ok_len (by rfl) h.z_len bb_len (da_cons (de_var 1) da_nil)) da_nil))))))
theorem bi__law_some (kV doc pm : Value) (an : Option Addr) (cdv ct : Value) (us : List Value) (hl : us.length = 2) : bindArgs (PySem.W.fnOf "_law_some" "_law_some" (defArgs s__law_some) (defBody s__law_some) (defScope s__law_some) .none kV doc pm an cdv ct) ⟨us, []⟩ = pure ((["hand", "things"] : List Str).zip us) := match us, hl with | [_, _], _ => rfl
theorem ok__law_some {P : Program} {w : World} {K : PySem.W.Frag} {mg : Str → Option Value} {base : Heap} (h : Hd K mg) : DefOk P w K mg base 2 2 "_law_some" g__law_some :=
  def_ok (b := b__law_some) (N := N__law_some) (ps := ["hand", "things"]) (st := s__law_some) h.d__law_some sc__law_some rfl bi__law_some (bd__law_some h)
abbrev N__law_less : List Str := ["one", "other"]
theorem sc__law_less : FnScope N__law_less ["one", "other"] (defScope s__law_less) := ⟨rfl, rfl, rfl, by decide +kernel, rfl, by decide +kernel, by decide +kernel⟩
noncomputable def b__law_less : Sv := (sRet (eCallN 2 g__law_frac (aCons (eBin oSub (eBin (oMul false) (eBin oIx (eVar 0) (eD (.int 0))) (eBin oIx (eVar 1) (eD (.int 1)))) (eBin (oMul false) (eBin oIx (eVar 1) (eD (.int 0))) (eBin oIx (eVar 0) (eD (.int 1))))) (aCons (eBin (oMul false) (eBin oIx (eVar 0) (eD (.int 1))) (eBin oIx (eVar 1) (eD (.int 1)))) aNil))))
noncomputable def g__law_less : Fn := fnOf 2 b__law_less
theorem bd__law_less {P : Program} {w : World} {K : PySem.W.Frag} {mg : Str → Option Value} {base : Heap} (h : Hd K mg) (f : Addr) (cdv : Value) (B : Around) (fs : List PySem.Env) (s : Shared) (H : Hp) (E : XK) (cc : Cc (cxD P w K mg base N__law_less "_law_less" s__law_less f cdv B fs s H E) (wD E) 1) : DB (cxD P w K mg base N__law_less "_law_less" s__law_less f cdv B fs s H E) (wD E) (defBody s__law_less) b__law_less :=
  (db_one (ds_ret (de_callD (ok__law_frac h) cc (by decide) (by rfl) (da_cons (de_bin op_sub ok_sub (de_bin op_mulX' ok_mul (de_ix (j := 0) (de_var 0) de_int) (de_ix (j := 0) (de_var 1) de_int)) (de_bin op_mulX' ok_mul (de_ix (j := 0) (de_var 1) de_int) (de_ix (j := 0) (de_var 0) de_int))) (da_cons (de_bin op_mulX' ok_mul (de_ix (j := 0) (de_var 0) de_int) (de_ix (j := 0) (de_var 1) de_int)) da_nil)))))
theorem bi__law_less (kV doc pm : Value) (an : Option Addr) (cdv ct : Value) (us : List Value) (hl : us.length = 2) : bindArgs (PySem.W.fnOf "_law_less" "_law_less" (defArgs s__law_less) (defBody s__law_less) (defScope s__law_less) .none kV doc pm an cdv ct) ⟨us, []⟩ = pure ((["one", "other"] : List Str).zip us) := match us, hl with | [_, _], _ => rfl
theorem ok__law_less {P : Program} {w : World} {K : PySem.W.Frag} {mg : Str → Option Value} {base : Heap} (h : Hd K mg) : DefOk P w K mg base 2 2 "_law_less" g__law_less :=
  def_ok (b := b__law_less) (N := N__law_less) (ps := ["one", "other"]) (st := s__law_less) h.d__law_less sc__law_less rfl bi__law_less (bd__law_less h)
abbrev N__law_times : List Str := ["one", "other"]
theorem sc__law_times : FnScope N__law_times ["one", "other"] (defScope s__law_times) := ⟨rfl, rfl, rfl, by decide +kernel, rfl, by decide +kernel, by decide +kernel⟩
noncomputable def b__law_times : Sv := (sRet (eCallN 2 g__law_frac (aCons (eBin (oMul false) (eBin oIx (eVar 0) (eD (.int 0))) (eBin oIx (eVar 1) (eD (.int 0)))) (aCons (eBin (oMul false) (eBin oIx (eVar 0) (eD (.int 1))) (eBin oIx (eVar 1) (eD (.int 1)))) aNil))))
noncomputable def g__law_times : Fn := fnOf 2 b__law_times
theorem bd__law_times {P : Program} {w : World} {K : PySem.W.Frag} {mg : Str → Option Value} {base : Heap} (h : Hd K mg) (f : Addr) (cdv : Value) (B : Around) (fs : List PySem.Env) (s : Shared) (H : Hp) (E : XK) (cc : Cc (cxD P w K mg base N__law_times "_law_times" s__law_times f cdv B fs s H E) (wD E) 1) : DB (cxD P w K mg base N__law_times "_law_times" s__law_times f cdv B fs s H E) (wD E) (defBody s__law_times) b__law_times :=
  (db_one (ds_ret (de_callD (ok__law_frac h) cc (by decide) (by rfl) (da_cons (de_bin op_mulX' ok_mul (de_ix (j := 0) (de_var 0) de_int) (de_ix (j := 0) (de_var 1) de_int)) (da_cons (de_bin op_mulX' ok_mul (de_ix (j := 0) (de_var 0) de_int) (de_ix (j := 0) (de_var 1) de_int)) da_nil)))))
theorem bi__law_times (kV doc pm : Value) (an : Option Addr) (cdv ct : Value) (us : List Value) (hl : us.length = 2) : bindArgs (PySem.W.fnOf "_law_times" "_law_times" (defArgs s__law_times) (defBody s__law_times) (defScope s__law_times) .none kV doc pm an cdv ct) ⟨us, []⟩ = pure ((["one", "other"] : List Str).zip us) := match us, hl with | [_, _], _ => rfl
theorem ok__law_times {P : Program} {w : World} {K : PySem.W.Frag} {mg : Str → Option Value} {base : Heap} (h : Hd K mg) : DefOk P w K mg base 2 2 "_law_times" g__law_times :=
  def_ok (b := b__law_times) (N := N__law_times) (ps := ["one", "other"]) (st := s__law_times) h.d__law_times sc__law_times rfl bi__law_times (bd__law_times h)
abbrev N__law_is_right : List Str := ["hand", "tall", "go", "stop", "lift", "slow", "speed", "given_now", "gone_now", "dues", "told", "square", "whole", "other", "one", "both_now", "floor", "length", "flag"]
theorem sc__law_is_right : FnScope N__law_is_right ["hand"] (defScope s__law_is_right) := ⟨rfl, rfl, rfl, by decide +kernel, rfl, by decide +kernel, by decide +kernel⟩
noncomputable def t0__law_is_right : Sv := (sSet 1 (eCallN 2 g__law_some (aCons (eVar 0) (aCons (eLst false (aCons (eD (.int 4)) (aCons (eD (.int 20)) (aCons (eD (.int 300)) aNil)))) aNil))))
noncomputable def t1__law_is_right : Sv := (sPar [(gN 2), (gN 3), (gN 4)] (aCons (eBin (oAdd false) (eD (.int 1)) (eCallN 2 g__law_draw (aCons (eVar 0) (aCons (eVar 1) aNil)))) (aCons (eBin (oAdd false) (eD (.int 1)) (eCallN 2 g__law_draw (aCons (eVar 0) (aCons (eVar 1) aNil)))) (aCons (eBin (oAdd false) (eD (.int 1)) (eCallN 2 g__law_draw (aCons (eVar 0) (aCons (eVar 1) aNil)))) aNil))))
noncomputable def t2__law_is_right : Sv := (sPar [(gN 5), (gN 6)] (aCons (eBin (oAdd false) (eD (.int 1)) (eCallN 2 g__law_draw (aCons (eVar 0) (aCons (eVar 2) aNil)))) (aCons (eBin (oAdd false) (eD (.int 1)) (eCallN 2 g__law_draw (aCons (eVar 0) (aCons (eVar 4) aNil)))) aNil)))
noncomputable def t3__law_is_right : Sv := (sSet 7 (eCallN 2 g__law_plus (aCons (eCallN 2 g__law_length (aCons (eBin (oMul false) (eVar 6) (eVar 6)) (aCons (eVar 2) aNil))) (aCons (eCallN 2 g__law_length (aCons (eBin (oMul false) (eVar 6) (eVar 6)) (aCons (eVar 3) aNil))) aNil))))
noncomputable def t4__law_is_right : Sv := (sSet 8 (eCallN 2 g__law_plus (aCons (eCallN 2 g__law_length (aCons (eBin (oMul false) (eVar 6) (eVar 6)) (aCons (eVar 2) aNil))) (aCons (eCallN 2 g__law_length (aCons (eBin oSub (eBin (oMul false) (eVar 4) (eVar 4)) (eBin (oMul false) (eVar 6) (eVar 6))) (aCons (eVar 5) aNil))) aNil))))
noncomputable def t5__law_is_right : Sv := (sSet 9 (eLst false (aCons (eCallN 2 g__law_length (aCons (eBin (oMul false) (eVar 4) (eVar 4)) (aCons (eVar 2) aNil))) (aCons (eCallN 2 g__law_length (aCons (eBin (oMul false) (eVar 6) (eVar 6)) (aCons (eVar 3) aNil))) (aCons (eVar 7) (aCons (eVar 8) aNil))))))
noncomputable def t6__law_is_right : Sv := (sSet 10 (eLst false (aCons (eCallN 2 g_roll_to (aCons (eVar 2) (aCons (eVar 4) aNil))) (aCons (eCallN 2 g_stop_from (aCons (eVar 3) (aCons (eVar 6) aNil))) (aCons (eCallN 3 g_given_up (aCons (eVar 2) (aCons (eVar 3) (aCons (eVar 6) aNil)))) (aCons (eCallN 4 g_gone_on (aCons (eVar 2) (aCons (eVar 5) (aCons (eVar 4) (aCons (eVar 6) aNil))))) aNil))))))
noncomputable def t7__law_is_right : Sv := (sIf (tOf (eBin oNe (eCall fRepr (aCons (eVar 10) aNil)) (eCall fRepr (aCons (eVar 9) aNil))))
  (sRet (eD (.bool false)))
  sNil)
noncomputable def t8__law_is_right : Sv := (sSet 11 (eCallN 2 g__law_frac (aCons (eBin (oMul false) (eBin (oMul false) (eVar 4) (eVar 4)) (eVar 3)) (aCons (eBin (oAdd false) (eVar 5) (eVar 3)) aNil))))
noncomputable def t9__law_is_right : Sv := (sSet 12 (eCallN 2 g__law_plus (aCons (eCallN 2 g__law_times (aCons (eVar 11) (aCons (eTup (aCons (eD (.int 1)) (aCons (eBin (oMul false) (eD (.int 2)) (eVar 2)) aNil))) aNil))) (aCons (eCallN 2 g__law_times (aCons (eVar 11) (aCons (eTup (aCons (eD (.int 1)) (aCons (eBin (oMul false) (eD (.int 2)) (eVar 3)) aNil))) aNil))) aNil))))
noncomputable def t10__law_is_right : Sv := (sSet 10 (eLst false (aCons (eCallN 4 g_even_square (aCons (eVar 2) (aCons (eVar 5) (aCons (eVar 3) (aCons (eVar 4) aNil))))) (aCons (eCallN 4 g_needed (aCons (eVar 2) (aCons (eVar 5) (aCons (eVar 3) (aCons (eVar 4) aNil))))) (aCons (eCallN 4 g_needed (aCons (eVar 2) (aCons (eVar 5) (aCons (eVar 3) (aCons (eVar 4) aNil))))) aNil)))))
noncomputable def t11__law_is_right : Sv := (sIf (tOf (eBin oNe (eCall fRepr (aCons (eVar 10) aNil)) (eCall fRepr (aCons (eLst false (aCons (eVar 11) (aCons (eVar 12) (aCons (eVar 12) aNil)))) aNil))))
  (sRet (eD (.bool false)))
  sNil)
noncomputable def t12__law_is_right : Sv := (sSet 13 (eCallN 2 g__law_less (aCons (eTup (aCons (eBin (oMul false) (eVar 4) (eVar 4)) (aCons (eD (.int 1)) aNil))) (aCons (eVar 11) aNil))))
noncomputable def t13__law_is_right : Sv := (sIf (tOf (eBin oNe (eCallN 2 g__law_plus (aCons (eCallN 2 g__law_times (aCons (eVar 11) (aCons (eTup (aCons (eD (.int 1)) (aCons (eBin (oMul false) (eD (.int 2)) (eVar 2)) aNil))) aNil))) (aCons (eCallN 2 g__law_times (aCons (eVar 13) (aCons (eTup (aCons (eD (.int 1)) (aCons (eBin (oMul false) (eD (.int 2)) (eVar 5)) aNil))) aNil))) aNil))) (eVar 12)))
  (sRet (eD (.bool false)))
  sNil)
noncomputable def l0__law_is_right : Sv := (sCons (sSet 15 (eLst false (aCons (eCallN 3 g_given_up (aCons (eVar 2) (aCons (eVar 3) (aCons (eVar 14) aNil)))) (aCons (eCallN 4 g_gone_on (aCons (eVar 2) (aCons (eVar 5) (aCons (eVar 4) (aCons (eVar 14) aNil))))) aNil))))
  (sCons (sIf (tAnd (tOf (eBin oGt (eCallN 2 g__law_sign (aCons (eBin oIx (eVar 15) (eD (.int 0))) (aCons (eVar 12) aNil))) (eD (.int 0)))) (tOf (eBin oGt (eCallN 2 g__law_sign (aCons (eBin oIx (eVar 15) (eD (.int 1))) (aCons (eVar 12) aNil))) (eD (.int 0)))))
  (sRet (eD (.bool false)))
  sNil)
  (sIf (tOf (eBin oNe (eBin oGt (eCallN 2 g__law_sign (aCons (eBin oIx (eVar 15) (eD (.int 0))) (aCons (eBin oIx (eVar 15) (eD (.int 1))) aNil))) (eD (.int 0))) (eBin oGt (eCallN 2 g__law_sign (aCons (eTup (aCons (eBin (oMul false) (eVar 14) (eVar 14)) (aCons (eD (.int 1)) aNil))) (aCons (eVar 11) aNil))) (eD (.int 0)))))
  (sRet (eD (.bool false)))
  sNil)))
noncomputable def t14__law_is_right : Sv := (sFor (iRange (aCons (eD (.int 1)) (aCons (eBin (oAdd false) (eCall fMin2 (aCons (eVar 4) (aCons (eD (.int 30)) aNil))) (eD (.int 1))) aNil))) (gN 14) l0__law_is_right)
noncomputable def t15__law_is_right : Sv := (sSet 16 (eBin oDiv (eBin oIx (eVar 12) (eD (.int 0))) (eBin oIx (eVar 12) (eD (.int 1)))))
noncomputable def l1__law_is_right : Sv := (sCons (sSet 18 (eBin oLe (eCallN 2 g__law_sign (aCons (eVar 12) (aCons (eTup (aCons (eVar 17) (aCons (eD (.int 1)) aNil))) aNil))) (eD (.int 0))))
  (sIf (tAnd (tOf (eBin oLe (eVar 17) (eD (.int 10000)))) (tOf (eBin oNe (eCall fRepr (aCons (eCallN 5 g_can_use (aCons (eVar 17) (aCons (eVar 2) (aCons (eVar 5) (aCons (eVar 3) (aCons (eVar 4) aNil)))))) aNil)) (eCall fRepr (aCons (eVar 18) aNil)))))
  (sRet (eD (.bool false)))
  sNil))
noncomputable def t16__law_is_right : Sv := (sFor (iSeq (eLst false (aCons (eCall fMax2 (aCons (eD (.int 1)) (aCons (eVar 16) aNil))) (aCons (eBin (oAdd false) (eVar 16) (eD (.int 1))) (aCons (eBin (oAdd false) (eD (.int 1)) (eCallN 2 g__law_draw (aCons (eVar 0) (aCons (eD (.int 10000)) aNil)))) aNil))))) (gN 17) l1__law_is_right)
noncomputable def t17__law_is_right : Sv := (sRet (eBin oEq (eCallN 4 g_needed (aCons (eVar 2) (aCons (eVar 5) (aCons (eVar 3) (aCons (eBin (oMul false) (eD (.int 2)) (eVar 4)) aNil))))) (eCallN 2 g__law_times (aCons (eVar 12) (aCons (eTup (aCons (eD (.int 4)) (aCons (eD (.int 1)) aNil))) aNil)))))
noncomputable def b__law_is_right : Sv := (sCons t0__law_is_right
  (sCons t1__law_is_right
  (sCons t2__law_is_right
  (sCons t3__law_is_right
  (sCons t4__law_is_right
  (sCons t5__law_is_right
  (sCons t6__law_is_right
  (sCons t7__law_is_right
  (sCons t8__law_is_right
  (sCons t9__law_is_right
  (sCons t10__law_is_right
  (sCons t11__law_is_right
  (sCons t12__law_is_right
  (sCons t13__law_is_right
  (sCons t14__law_is_right
  (sCons t15__law_is_right
  (sCons t16__law_is_right
  t17__law_is_right)))))))))))))))))
noncomputable def g__law_is_right : Fn := fnOf 19 b__law_is_right
theorem bd__law_is_right {P : Program} {w : World} {K : PySem.W.Frag} {mg : Str → Option Value} {base : Heap} (h : Hd K mg) (f : Addr) (cdv : Value) (B : Around) (fs : List PySem.Env) (s : Shared) (H : Hp) (E : XK) (cc : Cc (cxD P w K mg base N__law_is_right "_law_is_right" s__law_is_right f cdv B fs s H E) (wD E) 6) : DB (cxD P w K mg base N__law_is_right "_law_is_right" s__law_is_right f cdv B fs s H E) (wD E) (defBody s__law_is_right) b__law_is_right :=
  (db_cons (ds_set 1 cc.nd rfl (.inl rfl) (de_callD (ok__law_some h) cc (by decide) (by rfl) (da_cons (de_var 0) (da_cons (de_lst false (da_cons de_int (da_cons de_int (da_cons de_int da_nil)))) da_nil))))
  (db_cons (ds_par3 2 3 4 cc.calm cc.nd rfl rfl rfl (by decide) (by decide) (by decide) rfl rfl rfl (da_cons (de_bin op_addX ok_add de_int (de_callD (ok__law_draw h) cc (by decide) (by rfl) (da_cons (de_var 0) (da_cons (de_var 1) da_nil)))) (da_cons (de_bin op_addX ok_add de_int (de_callD (ok__law_draw h) cc (by decide) (by rfl) (da_cons (de_var 0) (da_cons (de_var 1) da_nil)))) (da_cons (de_bin op_addX ok_add de_int (de_callD (ok__law_draw h) cc (by decide) (by rfl) (da_cons (de_var 0) (da_cons (de_var 1) da_nil)))) da_nil))))
  (db_cons (ds_par2 5 6 cc.calm cc.nd rfl rfl (by decide) rfl rfl (da_cons (de_bin op_addX ok_add de_int (de_callD (ok__law_draw h) cc (by decide) (by rfl) (da_cons (de_var 0) (da_cons (de_var 2) da_nil)))) (da_cons (de_bin op_addX ok_add de_int (de_callD (ok__law_draw h) cc (by decide) (by rfl) (da_cons (de_var 0) (da_cons (de_var 4) da_nil)))) da_nil)))
  (db_cons (ds_set 7 cc.nd rfl (.inl rfl) (de_callD (ok__law_plus h) cc (by decide) (by rfl) (da_cons (de_callD (ok__law_length h) cc (by decide) (by rfl) (da_cons (de_bin op_mulX' ok_mul (de_var 6) (de_var 6)) (da_cons (de_var 2) da_nil))) (da_cons (de_callD (ok__law_length h) cc (by decide) (by rfl) (da_cons (de_bin op_mulX' ok_mul (de_var 6) (de_var 6)) (da_cons (de_var 3) da_nil))) da_nil))))
  (db_cons (ds_set 8 cc.nd rfl (.inl rfl) (de_callD (ok__law_plus h) cc (by decide) (by rfl) (da_cons (de_callD (ok__law_length h) cc (by decide) (by rfl) (da_cons (de_bin op_mulX' ok_mul (de_var 6) (de_var 6)) (da_cons (de_var 2) da_nil))) (da_cons (de_callD (ok__law_length h) cc (by decide) (by rfl) (da_cons (de_bin op_sub ok_sub (de_bin op_mulX' ok_mul (de_var 4) (de_var 4)) (de_bin op_mulX' ok_mul (de_var 6) (de_var 6))) (da_cons (de_var 5) da_nil))) da_nil))))
  (db_cons (ds_set 9 cc.nd rfl (.inl rfl) (de_lst false (da_cons (de_callD (ok__law_length h) cc (by decide) (by rfl) (da_cons (de_bin op_mulX' ok_mul (de_var 4) (de_var 4)) (da_cons (de_var 2) da_nil))) (da_cons (de_callD (ok__law_length h) cc (by decide) (by rfl) (da_cons (de_bin op_mulX' ok_mul (de_var 6) (de_var 6)) (da_cons (de_var 3) da_nil))) (da_cons (de_var 7) (da_cons (de_var 8) da_nil))))))
  (db_cons (ds_set 10 cc.nd rfl (.inl rfl) (de_lst false (da_cons (de_callD (ok_roll_to h) cc (by decide) (by rfl) (da_cons (de_var 2) (da_cons (de_var 4) da_nil))) (da_cons (de_callD (ok_stop_from h) cc (by decide) (by rfl) (da_cons (de_var 3) (da_cons (de_var 6) da_nil))) (da_cons (de_callD (ok_given_up h) cc (by decide) (by rfl) (da_cons (de_var 2) (da_cons (de_var 3) (da_cons (de_var 6) da_nil)))) (da_cons (de_callD (ok_gone_on h) cc (by decide) (by rfl) (da_cons (de_var 2) (da_cons (de_var 5) (da_cons (de_var 4) (da_cons (de_var 6) da_nil))))) da_nil))))))
  (db_cons (ds_if (dt_cmp (op_neX cc.hu) ok_ne (de_callB (call_reprX cc.gd cc.hu) ok_repr (by rfl) h.z_repr bb_repr (da_cons (de_var 10) da_nil)) (de_callB (call_reprX cc.gd cc.hu) ok_repr (by rfl) h.z_repr bb_repr (da_cons (de_var 9) da_nil)) (nomark _))
  (db_one (ds_ret de_bl))
  db_nil)
  (db_cons (ds_set 11 cc.nd rfl (.inl rfl) (de_callD (ok__law_frac h) cc (by decide) (by rfl) (da_cons (de_bin op_mulX' ok_mul (de_bin op_mulX' ok_mul (de_var 4) (de_var 4)) (de_var 3)) (da_cons (de_bin op_addX ok_add (de_var 5) (de_var 3)) da_nil))))
  (db_cons (ds_set 12 cc.nd rfl (.inl rfl) (de_callD (ok__law_plus h) cc (by decide) (by rfl) (da_cons (de_callD (ok__law_times h) cc (by decide) (by rfl) (da_cons (de_var 11) (da_cons (de_tup (da_cons de_int (da_cons (de_bin op_mulX' ok_mul de_int (de_var 2)) da_nil))) da_nil))) (da_cons (de_callD (ok__law_times h) cc (by decide) (by rfl) (da_cons (de_var 11) (da_cons (de_tup (da_cons de_int (da_cons (de_bin op_mulX' ok_mul de_int (de_var 3)) da_nil))) da_nil))) da_nil))))
  (db_cons (ds_set 10 cc.nd rfl (.inl rfl) (de_lst false (da_cons (de_callD (ok_even_square h) cc (by decide) (by rfl) (da_cons (de_var 2) (da_cons (de_var 5) (da_cons (de_var 3) (da_cons (de_var 4) da_nil))))) (da_cons (de_callD (ok_needed h) cc (by decide) (by rfl) (da_cons (de_var 2) (da_cons (de_var 5) (da_cons (de_var 3) (da_cons (de_var 4) da_nil))))) (da_cons (de_callD (ok_needed h) cc (by decide) (by rfl) (da_cons (de_var 2) (da_cons (de_var 5) (da_cons (de_var 3) (da_cons (de_var 4) da_nil))))) da_nil)))))
  (db_cons (ds_if (dt_cmp (op_neX cc.hu) ok_ne (de_callB (call_reprX cc.gd cc.hu) ok_repr (by rfl) h.z_repr bb_repr (da_cons (de_var 10) da_nil)) (de_callB (call_reprX cc.gd cc.hu) ok_repr (by rfl) h.z_repr bb_repr (da_cons (de_lst false (da_cons (de_var 11) (da_cons (de_var 12) (da_cons (de_var 12) da_nil)))) da_nil)) (nomark _))
  (db_one (ds_ret de_bl))
  db_nil)
  (db_cons (ds_set 13 cc.nd rfl (.inl rfl) (de_callD (ok__law_less h) cc (by decide) (by rfl) (da_cons (de_tup (da_cons (de_bin op_mulX' ok_mul (de_var 4) (de_var 4)) (da_cons de_int da_nil))) (da_cons (de_var 11) da_nil))))
  (db_cons (ds_if (dt_cmp (op_neX cc.hu) ok_ne (de_callD (ok__law_plus h) cc (by decide) (by rfl) (da_cons (de_callD (ok__law_times h) cc (by decide) (by rfl) (da_cons (de_var 11) (da_cons (de_tup (da_cons de_int (da_cons (de_bin op_mulX' ok_mul de_int (de_var 2)) da_nil))) da_nil))) (da_cons (de_callD (ok__law_times h) cc (by decide) (by rfl) (da_cons (de_var 13) (da_cons (de_tup (da_cons de_int (da_cons (de_bin op_mulX' ok_mul de_int (de_var 5)) da_nil))) da_nil))) da_nil))) (de_var 12) (nomark _))
  (db_one (ds_ret de_bl))
  db_nil)
  (db_cons (ds_for cc (di_range2 (by rfl) h.z_range (da_cons de_int (da_cons (de_bin op_addX ok_add (de_callB (call_min2 cc.calm) ok_min2 (by rfl) h.z_min bb_min (da_cons (de_var 4) (da_cons de_int da_nil))) de_int) da_nil))) (dg_name 14 cc.nd rfl (.inl rfl))
  (db_cons (ds_set 15 cc.nd rfl (.inl rfl) (de_lst false (da_cons (de_callD (ok_given_up h) cc (by decide) (by rfl) (da_cons (de_var 2) (da_cons (de_var 3) (da_cons (de_var 14) da_nil)))) (da_cons (de_callD (ok_gone_on h) cc (by decide) (by rfl) (da_cons (de_var 2) (da_cons (de_var 5) (da_cons (de_var 4) (da_cons (de_var 14) da_nil))))) da_nil))))
  (db_cons (ds_if (DW.t (dw_and (dt_cmp (op_gtX cc.hu) ok_gt (de_callD (ok__law_sign h) cc (by decide) (by rfl) (da_cons (de_ix (j := 0) (de_var 15) de_int) (da_cons (de_var 12) da_nil))) de_int (nomark _)) (dw_one (dt_cmp (op_gtX cc.hu) ok_gt (de_callD (ok__law_sign h) cc (by decide) (by rfl) (da_cons (de_ix (j := 0) (de_var 15) de_int) (da_cons (de_var 12) da_nil))) de_int (nomark _)))))
  (db_one (ds_ret de_bl))
  db_nil)
  (db_one (ds_if (dt_cmp (op_neX cc.hu) ok_ne (de_cmp (op_gtX cc.hu) ok_gt (de_callD (ok__law_sign h) cc (by decide) (by rfl) (da_cons (de_ix (j := 0) (de_var 15) de_int) (da_cons (de_ix (j := 0) (de_var 15) de_int) da_nil))) de_int (nomark _)) (de_cmp (op_gtX cc.hu) ok_gt (de_callD (ok__law_sign h) cc (by decide) (by rfl) (da_cons (de_tup (da_cons (de_bin op_mulX' ok_mul (de_var 14) (de_var 14)) (da_cons de_int da_nil))) (da_cons (de_var 11) da_nil))) de_int (nomark _)) (nomark _))
  (db_one (ds_ret de_bl))
  db_nil)))))
  (db_cons (ds_set 16 cc.nd rfl (.inl rfl) (de_bin op_divX ok_div (de_ix (j := 0) (de_var 12) de_int) (de_ix (j := 0) (de_var 12) de_int)))
  (db_cons (ds_for cc (di_seq (de_lst false (da_cons (de_callB (call_max2 cc.calm) ok_max2 (by rfl) h.z_max bb_max (da_cons de_int (da_cons (de_var 16) da_nil))) (da_cons (de_bin op_addX ok_add (de_var 16) de_int) (da_cons (de_bin op_addX ok_add de_int (de_callD (ok__law_draw h) cc (by decide) (by rfl) (da_cons (de_var 0) (da_cons de_int da_nil)))) da_nil))))) (dg_name 17 cc.nd rfl (.inl rfl))
  (db_cons (ds_set 18 cc.nd rfl (.inl rfl) (de_cmp (op_leX cc.hu) ok_le (de_callD (ok__law_sign h) cc (by decide) (by rfl) (da_cons (de_var 12) (da_cons (de_tup (da_cons (de_var 17) (da_cons de_int da_nil))) da_nil))) de_int (nomark _)))
  (db_one (ds_if (DW.t (dw_and (dt_cmp (op_leX cc.hu) ok_le (de_var 17) de_int (nomark _)) (dw_one (dt_cmp (op_neX cc.hu) ok_ne (de_callB (call_reprX cc.gd cc.hu) ok_repr (by rfl) h.z_repr bb_repr (da_cons (de_callD (ok_can_use h) cc (by decide) (by rfl) (da_cons (de_var 17) (da_cons (de_var 2) (da_cons (de_var 5) (da_cons (de_var 3) (da_cons (de_var 4) da_nil)))))) da_nil)) (de_callB (call_reprX cc.gd cc.hu) ok_repr (by rfl) h.z_repr bb_repr (da_cons (de_var 18) da_nil)) (nomark _)))))
  (db_one (ds_ret de_bl))
  db_nil))))
  (db_one (ds_ret (de_cmp (op_eqX cc.hu) ok_eq (de_callD (ok_needed h) cc (by decide) (by rfl) (da_cons (de_var 2) (da_cons (de_var 5) (da_cons (de_var 3) (da_cons (de_bin op_mulX' ok_mul de_int (de_var 4)) da_nil))))) (de_callD (ok__law_times h) cc (by decide) (by rfl) (da_cons (de_var 12) (da_cons (de_tup (da_cons de_int (da_cons de_int da_nil))) da_nil))) (nomark _)))))))))))))))))))))
theorem bi__law_is_right (kV doc pm : Value) (an : Option Addr) (cdv ct : Value) (us : List Value) (hl : us.length = 1) : bindArgs (PySem.W.fnOf "_law_is_right" "_law_is_right" (defArgs s__law_is_right) (defBody s__law_is_right) (defScope s__law_is_right) .none kV doc pm an cdv ct) ⟨us, []⟩ = pure ((["hand"] : List Str).zip us) := match us, hl with | [_], _ => rfl
theorem ok__law_is_right {P : Program} {w : World} {K : PySem.W.Frag} {mg : Str → Option Value} {base : Heap} (h : Hd K mg) : DefOk P w K mg base 7 1 "_law_is_right" g__law_is_right :=
  def_ok (b := b__law_is_right) (N := N__law_is_right) (ps := ["hand"]) (st := s__law_is_right) h.d__law_is_right sc__law_is_right rfl bi__law_is_right (bd__law_is_right h)
abbrev N_law : List Str := ["script", "hand", "step"]
theorem sc_law : FnScope N_law ["script"] (defScope s_law) := ⟨rfl, rfl, rfl, by decide +kernel, rfl, by decide +kernel, by decide +kernel⟩
noncomputable def t0_law : Sv := (sSet 1 (eCallN 1 g__law_hand (aCons (eVar 0) aNil)))
noncomputable def t1_law : Sv := (sIf (tOr (tOf (eBin oNe (eCallN 2 g_roll_to (aCons (eD (.int 2)) (aCons (eD (.int 6)) aNil))) (eTup (aCons (eD (.int 9)) (aCons (eD (.int 1)) aNil))))) (tOf (eBin oNe (eCallN 2 g_stop_from (aCons (eD (.int 3)) (aCons (eD (.int 4)) aNil))) (eTup (aCons (eD (.int 8)) (aCons (eD (.int 3)) aNil))))))
  (sRet (eD (.bool false)))
  sNil)
noncomputable def t2_law : Sv := (sIf (tOr (tOf (eBin oNe (eCallN 3 g_given_up (aCons (eD (.int 2)) (aCons (eD (.int 4)) (aCons (eD (.int 4)) aNil)))) (eTup (aCons (eD (.int 6)) (aCons (eD (.int 1)) aNil))))) (tOf (eBin oNe (eCallN 4 g_gone_on (aCons (eD (.int 2)) (aCons (eD (.int 1)) (aCons (eD (.int 6)) (aCons (eD (.int 4)) aNil))))) (eTup (aCons (eD (.int 14)) (aCons (eD (.int 1)) aNil))))))
  (sRet (eD (.bool false)))
  sNil)
noncomputable def t3_law : Sv := (sIf (tOr (tOf (eBin oNe (eCallN 4 g_even_square (aCons (eD (.int 2)) (aCons (eD (.int 1)) (aCons (eD (.int 3)) (aCons (eD (.int 4)) aNil))))) (eTup (aCons (eD (.int 12)) (aCons (eD (.int 1)) aNil))))) (tOr (tOf (eBin oNe (eCallN 4 g_needed (aCons (eD (.int 2)) (aCons (eD (.int 1)) (aCons (eD (.int 3)) (aCons (eD (.int 4)) aNil))))) (eTup (aCons (eD (.int 5)) (aCons (eD (.int 1)) aNil))))) (tOf (eBin (oIs true) (eCallN 5 g_can_use (aCons (eD (.int 5)) (aCons (eD (.int 2)) (aCons (eD (.int 1)) (aCons (eD (.int 3)) (aCons (eD (.int 4)) aNil)))))) (eD (.bool true))))))
  (sRet (eD (.bool false)))
  sNil)
noncomputable def t4_law : Sv := (sIf (tOf (eBin (oIs true) (eCallN 5 g_can_use (aCons (eD (.int 4)) (aCons (eD (.int 2)) (aCons (eD (.int 1)) (aCons (eD (.int 3)) (aCons (eD (.int 4)) aNil)))))) (eD (.bool false))))
  (sRet (eD (.bool false)))
  sNil)
noncomputable def l0_law : Ev := (eCallN 1 g__law_is_right (aCons (eVar 1) aNil))
noncomputable def t5_law : Sv := (sRet (eCall fAll (aCons (eLc false (iRange (aCons (eD (.int 8)) aNil)) (gN 2) tYesD l0_law [2]) aNil)))
noncomputable def b_law : Sv := (sCons t0_law
  (sCons t1_law
  (sCons t2_law
  (sCons t3_law
  (sCons t4_law
  t5_law)))))
noncomputable def g_law : Fn := fnOf 3 b_law
theorem bd_law {P : Program} {w : World} {K : PySem.W.Frag} {mg : Str → Option Value} {base : Heap} (h : Hd K mg) (f : Addr) (cdv : Value) (B : Around) (fs : List PySem.Env) (s : Shared) (H : Hp) (E : XK) (cc : Cc (cxD P w K mg base N_law "law" s_law f cdv B fs s H E) (wD E) 7) : DB (cxD P w K mg base N_law "law" s_law f cdv B fs s H E) (wD E) (defBody s_law) b_law :=
  (db_cons (ds_set 1 cc.nd rfl (.inr rfl) (de_callD (ok__law_hand h) cc (by decide) (by rfl) (da_cons (de_var 0) da_nil)))
  (db_cons (ds_if (DW.t (dw_or (dt_cmp (op_neX cc.hu) ok_ne (de_callD (ok_roll_to h) cc (by decide) (by rfl) (da_cons de_int (da_cons de_int da_nil))) (de_tup (da_cons de_int (da_cons de_int da_nil))) (nomark _)) (dw_or1 (dt_cmp (op_neX cc.hu) ok_ne (de_callD (ok_stop_from h) cc (by decide) (by rfl) (da_cons de_int (da_cons de_int da_nil))) (de_tup (da_cons de_int (da_cons de_int da_nil))) (nomark _)))))
  (db_one (ds_ret de_bl))
  db_nil)
  (db_cons (ds_if (DW.t (dw_or (dt_cmp (op_neX cc.hu) ok_ne (de_callD (ok_given_up h) cc (by decide) (by rfl) (da_cons de_int (da_cons de_int (da_cons de_int da_nil)))) (de_tup (da_cons de_int (da_cons de_int da_nil))) (nomark _)) (dw_or1 (dt_cmp (op_neX cc.hu) ok_ne (de_callD (ok_gone_on h) cc (by decide) (by rfl) (da_cons de_int (da_cons de_int (da_cons de_int (da_cons de_int da_nil))))) (de_tup (da_cons de_int (da_cons de_int da_nil))) (nomark _)))))
  (db_one (ds_ret de_bl))
  db_nil)
  (db_cons (ds_if (DW.t (dw_or (dt_cmp (op_neX cc.hu) ok_ne (de_callD (ok_even_square h) cc (by decide) (by rfl) (da_cons de_int (da_cons de_int (da_cons de_int (da_cons de_int da_nil))))) (de_tup (da_cons de_int (da_cons de_int da_nil))) (nomark _)) (dw_or (dt_cmp (op_neX cc.hu) ok_ne (de_callD (ok_needed h) cc (by decide) (by rfl) (da_cons de_int (da_cons de_int (da_cons de_int (da_cons de_int da_nil))))) (de_tup (da_cons de_int (da_cons de_int da_nil))) (nomark _)) (dw_or1 (dt_cmp op_isNotX ok_is (de_callD (ok_can_use h) cc (by decide) (by rfl) (da_cons de_int (da_cons de_int (da_cons de_int (da_cons de_int (da_cons de_int da_nil)))))) de_bl (nomark _))))))
  (db_one (ds_ret de_bl))
  db_nil)
  (db_cons (ds_if (dt_cmp op_isNotX ok_is (de_callD (ok_can_use h) cc (by decide) (by rfl) (da_cons de_int (da_cons de_int (da_cons de_int (da_cons de_int (da_cons de_int da_nil)))))) de_bl (nomark _))
  (db_one (ds_ret de_bl))
  db_nil)
  (db_one (ds_ret (de_callB (call_allX cc.calm) ok_allF (by rfl) h.z_all bb_all (da_cons (de_lc false cc (di_range1 (by rfl) h.z_range (da_cons de_int da_nil)) (blkOk_by (N := N_law) (sc := defScope s_law) (own := [("step", 2)]) (by decide +kernel)) (fun _ _ _ _ _ => (dg_name 2 cc.blk.nd rfl (.inl rfl))) (fun _ _ _ _ _ => dts_nil) (fun _ _ _ _ _ => (de_callD (ok__law_is_right h) cc.blk (by decide) (by rfl) (da_cons (de_var 1) da_nil)))) da_nil)))))))))
theorem ok_law {P : Program} {w : World} {K : PySem.W.Frag} {mg : Str → Option Value} {fa : Addr} (h : Hd K mg) (hfa : mg "law" = some (.ref fa)) : ∃ fd : FuncData, (∀ (s : Shared) (u : Value), BindsTo s fd ⟨[u], []⟩ [("script", u)]) ∧ ∀ base : Heap, K.In base → base.Ns mainGlobals mg → Fk P w K mg base 8 fa fd ["script"] (spN K mg 1 g_law) :=
  law_end (b := b_law) (N := N_law) (st := s_law) h.d_law hfa sc_law (fun _ _ _ _ _ _ s v => .of_eq rfl) fun base f cdv B fs s H E cc => bd_law h f cdv B fs s H E cc
set_option exponentiation.threshold 5000
theorem mod_l {x y m : Int} (h : 0 < m) (h2 : m < 18446744073709551616) : mulOk (x % m) y = true := mulOk_l (by
  have a := Int.emod_nonneg x (by omega : m ≠ 0)
  have b := Int.emod_lt_of_pos x h
  omega)
theorem mod_r {x y m : Int} (h : 0 < m) (h2 : m < 18446744073709551616) : mulOk y (x % m) = true := mulOk_r (by
  have a := Int.emod_nonneg x (by omega : m ≠ 0)
  have b := Int.emod_lt_of_pos x h
  omega)
theorem num_l {x y : Int} (h : x.natAbs < 18446744073709551616) : mulOk x y = true := mulOk_l h
theorem num_r {x y : Int} (h : x.natAbs < 18446744073709551616) : mulOk y x = true := mulOk_r h
theorem draw_ok : DrawOk g__law_draw := by
  rintro size S h0 h1 ⟨cs, p, z, s, n, ok, rfl⟩
  have hs1 : size < 2 ^ 4000 := Int.lt_trans h1 (by decide)
  have hs0 : size ≠ 0 := by omega
  have m1 : mulOk s 69621 = true := mulOk_r (by decide)
  generalize e : g__law_draw [.loc 0, .d (.int size)] [hand cs p z s n] = R
  by_cases hz : z = 0
  · by_cases hp : p < cs.length
    · -- a cell is taken
      obtain ⟨k, rfl⟩ : ∃ k : Nat, p = k := ⟨p.toNat, by have := ok.p; omega⟩
      have hk : k < cs.length := by omega
      have ec : atI (cs.map PyData.int) k = some (.int cs[k]) := by rw [atI_nat]; simp [hk]
      have c0 : 0 ≤ cs[k] := ok.cs _ (List.getElem_mem hk)
      generalize cs[k] = c at ec c0
      have m2 : mulOk c 40692 = true := mulOk_r (by decide)
      subst hz
      by_cases hc : 1000000000000000000 ≤ c
      · have cp : 0 < c := by omega
        simp [g__law_draw, ap_fnOf, b__law_draw, hand, oIx, view, oPost, ec, hp, ixN, oMul_int, m1, m2, oMod_int, oDiv_int h0 hs1, oDiv_int, oPow, hc, cp, h0, hs1, List.replicate] at e
        subst e
        refine ⟨_, _, Int.emod_nonneg _ hs0, Int.emod_lt_of_pos _ h0, ⟨cs, _, _, _, _, ?_, rfl⟩, rfl⟩; exact ⟨ok.cs, by have := ok.p; omega, Int.ediv_nonneg c0 (by omega), Int.emod_nonneg _ (by decide), ok.n⟩
      · simp [g__law_draw, ap_fnOf, b__law_draw, hand, oIx, view, oPost, ec, hp, ixN, oMul_int, m1, m2, oMod_int, oDiv_int h0 hs1, oDiv_int, oPow, hc, h0, hs1, List.replicate, mod_l, num_l, num_r] at e
        subst e
        refine ⟨_, _, Int.emod_nonneg _ hs0, Int.emod_lt_of_pos _ h0, ⟨cs, _, _, _, _, ?_, rfl⟩, rfl⟩; exact ⟨ok.cs, by have := ok.p; omega, by decide, Int.emod_nonneg _ (by decide), by have := ok.n; omega⟩
    · subst hz
      simp [g__law_draw, ap_fnOf, b__law_draw, hand, oIx, view, oPost, hp, ixN, oMul_int, m1, oMod_int, oDiv_int h0 hs1, oDiv_int, oPow, h0, hs1, List.replicate, mod_l, num_l, num_r] at e
      subst e
      refine ⟨_, _, Int.emod_nonneg _ hs0, Int.emod_lt_of_pos _ h0, ⟨cs, _, _, _, _, ?_, rfl⟩, rfl⟩; exact ⟨ok.cs, ok.p, by decide, ok.s, by have := ok.n; omega⟩
  · have zp : 0 < z := by have := ok.z; omega
    simp [g__law_draw, ap_fnOf, b__law_draw, hand, oIx, view, oPost, hz, zp, ixN, oMod_int, oDiv_int h0 hs1, oDiv_int, h0, hs1, List.replicate] at e
    subst e
    refine ⟨_, _, Int.emod_nonneg _ hs0, Int.emod_lt_of_pos _ h0, ⟨cs, _, _, _, _, ?_, rfl⟩, rfl⟩; exact ⟨ok.cs, ok.p, Int.ediv_nonneg (by omega) (by omega), ok.s, ok.n⟩
theorem some_ok {xs : List D} {S : Store} (h : xs ≠ []) (hl : xs.length ≤ 1000) (H : Hand S) : ∃ x S', x ∈ xs ∧ Hand S' ∧ g__law_some [.loc 0, .d (.list xs)] S = .ok (.d x) S' := by
  have hp : 0 < xs.length := List.length_pos_iff.mpr h
  obtain ⟨r, S', h0, h1, H', e⟩ := draw_ok xs.length S (by omega) (by omega) H
  obtain ⟨k, rfl⟩ : ∃ k : Nat, r = k := ⟨r.toNat, by omega⟩
  have hk : k < xs.length := by omega
  have ex : atI xs k = some xs[k] := by rw [atI_nat]; simp [hk]
  refine ⟨xs[k], S', List.getElem_mem hk, H', ?_⟩
  obtain ⟨cs, p, z, s, n, ok, rfl⟩ := H'
  obtain ⟨cs0, p0, z0, s0, n0, ok0, rfl⟩ := H
  simp [g__law_some, ap_fnOf, b__law_some, e, ex, List.replicate]
theorem euclid (n : Nat) : ∀ (a b : Int) (S : Store), 0 ≤ b → b.toNat ≤ n → ∃ g : Int, g.natAbs = Int.gcd a b ∧ sWhile l0_common l1_common [some (.d (.int a)), some (.d (.int b))] S = .nx [some (.d (.int g)), some (.d (.int 0))] S := by
  induction n with
  | zero =>
    intro a b S h0 hn
    have e : b = 0 := by omega
    subst e
    exact ⟨a, by simp, by rw [sWhile_eq]; simp [l0_common]⟩
  | succ n ih =>
    intro a b S h0 hn
    by_cases e : b = 0
    · subst e
      exact ⟨a, by simp, by rw [sWhile_eq]; simp [l0_common]⟩
    · have hb : 0 < b := by omega
      have h1 := Int.emod_nonneg a e
      have h2 := Int.emod_lt_of_pos a hb
      obtain ⟨g, hg, eg⟩ := ih b (a % b) S h1 (by omega)
      refine ⟨g, by rw [hg, gcd_mod], ?_⟩
      rw [sWhile_eq]
      simp [l0_common, l1_common, e, oMod_int hb]
      exact eg
theorem common_ok {a b : Int} {S : Store} (h : 0 ≤ b) : g_common [.d (.int a), .d (.int b)] S = .ok (.d (.int (Int.gcd a b))) S := by
  obtain ⟨g, hg, e⟩ := euclid b.toNat a b S h (Nat.le_refl _)
  simp [g_common, ap_fnOf, b_common, e, hg]
theorem fraction_ok {a b : Int} {S : Store} (h : 0 < b) (h2 : b < 2 ^ 4000) : g_fraction [.d (.int a), .d (.int b)] S = .ok (.d (dq (Rat.divInt a b))) S := by
  have hg : (0 : Int) < Int.gcd a b := by
    have := Int.gcd_pos_of_ne_zero_right a (by omega : b ≠ 0)
    omega
  have hg2 : (Int.gcd a b : Int) < 2 ^ 4000 := Int.lt_of_le_of_lt (Int.gcd_le_right a h) h2
  have hn : ¬ b < 0 := by omega
  simp [g_fraction, ap_fnOf, b_fraction, hn, common_ok (a := a) (b := b) (Int.le_of_lt h), oDiv_int hg hg2, List.replicate, ← dq_of h]
theorem euclid2 (n : Nat) : ∀ (a b : Int) (x y : Option Vl) (S : Store), 0 ≤ a → 0 ≤ b → a.toNat ≤ n → sWhile l0__law_frac l1__law_frac [x, y, some (.d (.int a)), some (.d (.int b))] S = .nx [x, y, some (.d (.int 0)), some (.d (.int (Int.gcd a b)))] S := by
  induction n with
  | zero =>
    intro a b x y S h0 h1 hn
    have e : a = 0 := by omega
    subst e
    rw [sWhile_eq]
    simp [l0__law_frac]
    omega
  | succ n ih =>
    intro a b x y S h0 h1 hn
    by_cases e : a = 0
    · subst e
      rw [sWhile_eq]
      simp [l0__law_frac]
      omega
    · have hb : 0 < a := by omega
      have h2 := Int.emod_nonneg b e
      have h3 := Int.emod_lt_of_pos b hb
      rw [sWhile_eq]
      simp [l0__law_frac, l1__law_frac, hb, oMod_int hb]
      rw [← l0__law_frac, ← l1__law_frac, ih (b % a) a x y S h2 h0 (by omega)]
      rw [Int.gcd_comm, gcd_mod, Int.gcd_comm]
theorem law_frac_ok {a b : Int} {S : Store} (h : 0 < b) (h2 : b < 2 ^ 4000) : g__law_frac [.d (.int a), .d (.int b)] S = .ok (.d (dq (Rat.divInt a b))) S := by
  have hg : (0 : Int) < Int.gcd a b := by
    have := Int.gcd_pos_of_ne_zero_right a (by omega : b ≠ 0)
    omega
  have hg2 : (Int.gcd a b : Int) < 2 ^ 4000 := Int.lt_of_le_of_lt (Int.gcd_le_right a h) h2
  have e := euclid2 a.natAbs a.natAbs b.natAbs (some (.d (.int a))) (some (.d (.int b))) S (by omega) (by omega) (by omega)
  have e2 : Int.gcd (a.natAbs : Int) (b.natAbs : Int) = Int.gcd a b := by simp [Int.gcd]
  rw [e2] at e
  simp [g__law_frac, ap_fnOf, b__law_frac, List.replicate, e, h, oDiv_int hg hg2, ← dq_of h]
section
variable {S : Store} {x y : Rat} {n m : Nat}
theorem pos2 {a b : Int} (h : 0 < a) (h2 : 0 < b) : 0 < a * b := Int.mul_pos h h2
theorem plus_ok (hx : Qs n x) (hy : Qs n y) (hn : n ≤ 1000) : g_plus [.d (dq x), .d (dq y)] S = .ok (.d (dq (x + y))) S := by
  have f := fraction_ok (a := x.num * y.den + y.num * x.den) (b := x.den * y.den) (S := S) (pos2 (den_pos x) (den_pos y)) ((hx.den.mul hy.den).lt (by omega))
  rw [q_add] at f
  simp [g_plus, ap_fnOf, b_plus, oMul_int, hx.num.ok hy.den (by omega) (by omega), hy.num.ok hx.den (by omega) (by omega), hx.den.ok hy.den (by omega) (by omega), f]
theorem minus_ok (hx : Qs n x) (hy : Qs n y) (hn : n ≤ 1000) : g_minus [.d (dq x), .d (dq y)] S = .ok (.d (dq (x - y))) S := by
  have f := fraction_ok (a := x.num * y.den - y.num * x.den) (b := x.den * y.den) (S := S) (pos2 (den_pos x) (den_pos y)) ((hx.den.mul hy.den).lt (by omega))
  rw [q_sub] at f
  simp [g_minus, ap_fnOf, b_minus, oMul_int, hx.num.ok hy.den (by omega) (by omega), hy.num.ok hx.den (by omega) (by omega), hx.den.ok hy.den (by omega) (by omega), f]
theorem lplus_ok (hx : Qs n x) (hy : Qs n y) (hn : n ≤ 1000) : g__law_plus [.d (dq x), .d (dq y)] S = .ok (.d (dq (x + y))) S := by
  have f := law_frac_ok (a := x.num * y.den + y.num * x.den) (b := x.den * y.den) (S := S) (pos2 (den_pos x) (den_pos y)) ((hx.den.mul hy.den).lt (by omega))
  rw [q_add] at f
  simp [g__law_plus, ap_fnOf, b__law_plus, oMul_int, hx.num.ok hy.den (by omega) (by omega), hy.num.ok hx.den (by omega) (by omega), hx.den.ok hy.den (by omega) (by omega), f]
theorem lless_ok (hx : Qs n x) (hy : Qs n y) (hn : n ≤ 1000) : g__law_less [.d (dq x), .d (dq y)] S = .ok (.d (dq (x - y))) S := by
  have f := law_frac_ok (a := x.num * y.den - y.num * x.den) (b := x.den * y.den) (S := S) (pos2 (den_pos x) (den_pos y)) ((hx.den.mul hy.den).lt (by omega))
  rw [q_sub] at f
  simp [g__law_less, ap_fnOf, b__law_less, oMul_int, hx.num.ok hy.den (by omega) (by omega), hy.num.ok hx.den (by omega) (by omega), hx.den.ok hy.den (by omega) (by omega), f]
theorem ltimes_ok {a b : Int} (hx : Qs n x) (ha : Bd n a) (hb : Bd n b) (h : 0 < b) (hn : n ≤ 1000) : g__law_times [.d (dq x), .d (.tuple [.int a, .int b])] S = .ok (.d (dq (x * Rat.divInt a b))) S := by
  have f := law_frac_ok (a := x.num * a) (b := x.den * b) (S := S) (pos2 (den_pos x) h) ((hx.den.mul hb).lt (by omega))
  rw [← Rat.divInt_mul_divInt, q_of] at f
  simp [g__law_times, ap_fnOf, b__law_times, oMul_int, hx.num.ok ha (by omega) (by omega), hx.den.ok hb (by omega) (by omega), f]
def sg (x y : Rat) : Int := (if y < x then 1 else 0) - if x < y then 1 else 0
theorem lsign_ok (hx : Qs n x) (hy : Qs n y) (hn : n ≤ 1000) : g__law_sign [.d (dq x), .d (dq y)] S = .ok (.d (.int (sg x y))) S := by
  have e2 : (x.num * y.den - y.num * x.den < 0) ↔ x < y := by rw [Rat.lt_iff]; omega
  simp [g__law_sign, ap_fnOf, b__law_sign, oMul_int, hx.num.ok hy.den (by omega) (by omega), hy.num.ok hx.den (by omega) (by omega), List.replicate, sg, ← Rat.lt_iff]
  simp only [e2]
theorem way_ok {f : Int} (hx : Qs n x) (hy : Qs n y) (hf : Bd n f) (h : 0 < f) (hn : n ≤ 300) : g_way_between [.d (dq x), .d (dq y), .d (.int f)] S = .ok (.d (dq ((y - x) / (2 * (f : Rat))))) S := by
  have hz := hy.sub hx
  have b2 : Bd 2 2 := by decide
  have f1 := fraction_ok (a := (y - x).num) (b := (y - x).den * 2 * f) (S := S) (pos2 (pos2 (den_pos _) (by decide)) h) (((hz.den.mul b2).mul hf).lt (by omega))
  rw [Int.mul_assoc, divInt_den _ _ (by omega), ← Int.mul_assoc, Rat.intCast_mul] at f1
  have f1 : g_fraction [.d (.int (y - x).num), .d (.int ((y - x).den * 2 * f))] S = .ok (.d (dq ((y - x) / (2 * (f : Rat))))) S := f1
  simp [g_way_between, ap_fnOf, b_way_between, minus_ok hy hx (by omega), oMul_int, hz.den.ok b2 (by omega) (by omega), (hz.den.mul b2).ok hf (by omega) (by omega), f1, List.replicate]
end
structure Wn (i : Int) : Prop where
  lo : 1 ≤ i
  hi : i ≤ 10000
theorem Wn.bd {i : Int} (h : Wn i) : Bd 14 i := by
  have := h.lo
  have := h.hi
  show i.natAbs < 2 ^ 14
  omega
section
variable {S : Store} {a b c d e : Int}
theorem within_ok (h : Wn a) : g_is_within [.d (.int a), .d (.int 1), .d (.int 10000)] S = .ok (.d (.bool true)) S := by
  have := h.lo
  have := h.hi
  simp [g_is_within, ap_fnOf, b_is_within, g_is_integer, b_is_integer, fIsi, isTy, *]
theorem check1 (h : Wn a) : g_check_numbers [.d (.tuple [.int a])] S = .ok (.d .none) S := by
  simp [g_check_numbers, ap_fnOf, b_check_numbers, seqOf, ap_forL1, l0_check_numbers, within_ok h, List.replicate]
theorem check2 (h : Wn a) (h2 : Wn b) : g_check_numbers [.d (.tuple [.int a, .int b])] S = .ok (.d .none) S := by
  simp [g_check_numbers, ap_fnOf, b_check_numbers, seqOf, ap_forL1, l0_check_numbers, within_ok h, within_ok h2, List.replicate]
theorem check3 (h : Wn a) (h2 : Wn b) (h3 : Wn c) : g_check_numbers [.d (.tuple [.int a, .int b, .int c])] S = .ok (.d .none) S := by
  simp [g_check_numbers, ap_fnOf, b_check_numbers, seqOf, ap_forL1, l0_check_numbers, within_ok h, within_ok h2, within_ok h3, List.replicate]
theorem square_ok (h : Bd 60 a) : g_square_of [.d (.int a)] S = .ok (.d (dq ((a : Rat) * a))) S := by
  simp [g_square_of, ap_fnOf, b_square_of, g_whole_of, b_whole_of, oMul_int, h.ok h (by omega) (by omega), dq_sq]
theorem sqQ (h : Wn a) : Qs 28 ((a : Rat) * a) := by
  rw [← Rat.intCast_mul]
  exact .int (h.bd.mul h.bd) (by decide)
theorem q0 {n : Nat} (h : 1 ≤ n := by decide) : Qs n 0 := .int (a := 0) (Nat.two_pow_pos n) h
theorem roll_ok (ha : Wn a) (hb : Wn b) : g_roll_to [.d (.int a), .d (.int b)] S = .ok (.d (dq ((b : Rat) * b / (2 * (a : Rat))))) S := by
  have w := way_ok (S := S) q0 (sqQ hb) (ha.bd.mono (by decide)) (by have := ha.lo; omega) (by decide)
  rw [q_sub0] at w
  simp [g_roll_to, ap_fnOf, b_roll_to, check2 ha hb, square_ok (hb.bd.mono (by decide)), dq_01, w]
theorem stop_ok (ha : Wn a) (hb : Wn b) : g_stop_from [.d (.int a), .d (.int b)] S = .ok (.d (dq ((b : Rat) * b / (2 * (a : Rat))))) S := by
  have w := way_ok (S := S) q0 (sqQ hb) (ha.bd.mono (by decide)) (by have := ha.lo; omega) (by decide)
  rw [q_sub0] at w
  simp [g_stop_from, ap_fnOf, b_stop_from, check2 ha hb, square_ok (hb.bd.mono (by decide)), dq_01, w]
theorem halfQ {x : Rat} {n : Nat} (hx : Qs n x) (ha : Wn a) : Qs (n + 16) (x / (2 * (a : Rat))) := by
  have := ha.lo
  have e : (2 * (a : Rat)) = ((2 * a : Int) : Rat) := by simp
  rw [e]
  exact hx.divI ((by decide : Bd 2 2).mul ha.bd) (by omega)
theorem given_ok (ha : Wn a) (hb : Wn b) (hc : Wn c) : g_given_up [.d (.int a), .d (.int b), .d (.int c)] S = .ok (.d (dq ((c : Rat) * c / (2 * (a : Rat)) + (c : Rat) * c / (2 * (b : Rat))))) S := by
  have w1 := way_ok (S := S) q0 (sqQ hc) (ha.bd.mono (by decide)) (by have := ha.lo; omega) (by decide)
  have w2 := way_ok (S := S) q0 (sqQ hc) (hb.bd.mono (by decide)) (by have := hb.lo; omega) (by decide)
  rw [q_sub0] at w1 w2
  simp [g_given_up, ap_fnOf, b_given_up, check3 ha hb hc, square_ok (hc.bd.mono (by decide)), dq_01, w1, w2, plus_ok (halfQ (sqQ hc) ha) (halfQ (sqQ hc) hb) (by decide)]
theorem slow_ok (h : b ≤ a) : g_check_slow [.d (.int a), .d (.int b)] S = .ok (.d .none) S := by
  have : ¬ a < b := by omega
  simp [g_check_slow, ap_fnOf, b_check_slow, this]
theorem gone_ok (ha : Wn a) (hb : Wn b) (hc : Wn c) (hd : Wn d) (h1 : b ≤ a) (h2 : d ≤ c) : g_gone_on [.d (.int a), .d (.int b), .d (.int c), .d (.int d)] S = .ok (.d (dq ((d : Rat) * d / (2 * (a : Rat)) + ((c : Rat) * c - (d : Rat) * d) / (2 * (b : Rat))))) S := by
  have w1 := way_ok (S := S) q0 (sqQ hd) (ha.bd.mono (by decide)) (by have := ha.lo; omega) (by decide)
  have w2 := way_ok (S := S) (sqQ hd) (sqQ hc) (hb.bd.mono (by decide)) (by have := hb.lo; omega) (by decide)
  rw [q_sub0] at w1
  have h3 : ¬ c < d := by omega
  simp [g_gone_on, ap_fnOf, b_gone_on, check2 ha hb, check2 hc hd, slow_ok h1, h3, square_ok (hc.bd.mono (by decide)), square_ok (hd.bd.mono (by decide)), dq_01, w1, w2, plus_ok ((halfQ (sqQ hd) ha).mono (by decide : 44 ≤ 73)) (halfQ ((sqQ hc).sub (sqQ hd)) hb) (by decide)]
def ev (slow stop lift : Int) : Rat := (lift : Rat) * lift * stop / ((slow : Rat) + stop)
def nd (go slow stop lift : Int) : Rat := ev slow stop lift / (2 * (go : Rat)) + ev slow stop lift / (2 * (stop : Rat))
theorem four_ok (ha : Wn a) (hb : Wn b) (hc : Wn c) (hd : Wn d) (h1 : b ≤ a) : g_check_four [.d (.int a), .d (.int b), .d (.int c), .d (.int d)] S = .ok (.d .none) S := by
  simp [g_check_four, ap_fnOf, b_check_four, check2 ha hb, check2 hc hd, slow_ok h1]
theorem evI (hb : Wn b) (hc : Wn c) (hd : Wn d) : Rat.divInt (d * d * c) (b + c) = ev b c d := by
  rw [Rat.divInt_eq_div]
  simp [ev]
theorem evQ (hb : Wn b) (hc : Wn c) (hd : Wn d) : Qs 42 (ev b c d) := by
  have := hb.lo
  have := hc.lo
  rw [← evI hb hc hd]
  exact .div ((hd.bd.mul hd.bd).mul hc.bd) ((hb.bd.add hc.bd).mono (by decide)) (by omega)
theorem ndQ (ha : Wn a) (hb : Wn b) (hc : Wn c) (hd : Wn d) : Qs 117 (nd a b c d) := (halfQ (evQ hb hc hd) ha).add (halfQ (evQ hb hc hd) hc)
theorem rawe_ok (hb : Wn b) (hc : Wn c) (hd : Wn d) : g_raw_even [.d (.int b), .d (.int c), .d (.int d)] S = .ok (.d (dq (ev b c d))) S := by
  have := hb.lo
  have := hc.lo
  have f := fraction_ok (a := d * d * c) (b := b + c) (S := S) (by omega) ((hb.bd.add hc.bd).lt (by decide))
  rw [evI hb hc hd] at f
  simp [g_raw_even, ap_fnOf, b_raw_even, oMul_int, hd.bd.ok hd.bd (by decide) (by decide), (hd.bd.mul hd.bd).ok hc.bd (by decide) (by decide), f]
theorem rawn_ok (ha : Wn a) (hb : Wn b) (hc : Wn c) (hd : Wn d) : g_raw_needed [.d (.int a), .d (.int b), .d (.int c), .d (.int d)] S = .ok (.d (dq (nd a b c d))) S := by
  have w1 := way_ok (S := S) q0 (evQ hb hc hd) (ha.bd.mono (by decide)) (by have := ha.lo; omega) (by decide)
  have w2 := way_ok (S := S) q0 (evQ hb hc hd) (hc.bd.mono (by decide)) (by have := hc.lo; omega) (by decide)
  rw [q_sub0] at w1 w2
  simp [g_raw_needed, ap_fnOf, b_raw_needed, rawe_ok hb hc hd, dq_01, w1, w2, plus_ok (halfQ (evQ hb hc hd) ha) (halfQ (evQ hb hc hd) hc) (by decide), List.replicate]
  rfl
theorem needed_ok (ha : Wn a) (hb : Wn b) (hc : Wn c) (hd : Wn d) (h1 : b ≤ a) : g_needed [.d (.int a), .d (.int b), .d (.int c), .d (.int d)] S = .ok (.d (dq (nd a b c d))) S := by
  simp [g_needed, ap_fnOf, b_needed, four_ok ha hb hc hd h1, rawn_ok ha hb hc hd]
theorem even_ok (ha : Wn a) (hb : Wn b) (hc : Wn c) (hd : Wn d) (h1 : b ≤ a) : g_even_square [.d (.int a), .d (.int b), .d (.int c), .d (.int d)] S = .ok (.d (dq (ev b c d))) S := by
  simp [g_even_square, ap_fnOf, b_even_square, four_ok ha hb hc hd h1, rawe_ok hb hc hd]
theorem can_ok (he : Wn e) (ha : Wn a) (hb : Wn b) (hc : Wn c) (hd : Wn d) (h1 : b ≤ a) : g_can_use [.d (.int e), .d (.int a), .d (.int b), .d (.int c), .d (.int d)] S = .ok (.d (.bool (decide (nd a b c d ≤ e)))) S := by
  have q := ndQ ha hb hc hd
  have e1 : (nd a b c d).num ≤ e * (nd a b c d).den ↔ nd a b c d ≤ e := by
    rw [Rat.le_iff]
    simp
  simp [g_can_use, ap_fnOf, b_can_use, check1 he, four_ok ha hb hc hd h1, rawn_ok ha hb hc hd, oMul_int, (he.bd).ok q.den (by decide) (by decide), List.replicate, e1]
theorem llength_ok (h : Bd 200 a) (hb : Wn b) : g__law_length [.d (.int a), .d (.int b)] S = .ok (.d (dq ((a : Rat) / (2 * (b : Rat))))) S := by
  have := hb.lo
  have f := law_frac_ok (a := a) (b := 2 * b) (S := S) (by omega) (((by decide : Bd 2 2).mul hb.bd).lt (by decide))
  rw [Rat.divInt_eq_div, Rat.intCast_mul] at f
  have f : g__law_frac [.d (.int a), .d (.int (2 * b))] S = .ok (.d (dq ((a : Rat) / (2 * (b : Rat))))) S := f
  simp [g__law_length, ap_fnOf, b__law_length, oMul_int, (by decide : Bd 2 2).ok hb.bd (by decide) (by decide), f]
end
theorem sgn {a b : Rat} (hb : 0 < b) : 0 < a * b ↔ 0 < a := by
  constructor
  · intro h
    rcases Classical.em (0 < a) with h1 | h1
    · exact h1
    · have := Rat.mul_nonneg (a := -a) (b := b) (by grind) (by grind)
      grind
  · intro h
    exact Rat.mul_pos h hb
theorem half_pos {x : Rat} (hx : 0 < x) : 0 < 1 / (2 * x) := by
  rw [Rat.lt_div_iff (by grind)]
  grind
theorem key (go stop slow l e s : Rat) (h1 : 0 < go) (h2 : 0 < stop) (h3 : 0 < slow) (h4 : slow ≤ go) (he : e = l * stop / (slow + stop)) :
   (s / (2 * go) + (l - s) / (2 * slow) < s / (2 * go) + s / (2 * stop) ↔ e < s) ∧ ¬ (e / (2 * go) + e / (2 * stop) < s / (2 * go) + s / (2 * stop) ∧ e / (2 * go) + e / (2 * stop) < s / (2 * go) + (l - s) / (2 * slow))
   ∧ e / (2 * go) + (l - e) / (2 * slow) = e / (2 * go) + e / (2 * stop) := by
  have hgo : go ≠ 0 := by grind
  have hst : stop ≠ 0 := by grind
  have hsl : slow ≠ 0 := by grind
  have hss : slow + stop ≠ 0 := by grind
  have k : e * slow = (l - e) * stop := by grind
  clear he
  have k2 : (l - e) / (2 * slow) = e / (2 * stop) := by grind
  have d1 : (s / (2 * go) + s / (2 * stop)) - (s / (2 * go) + (l - s) / (2 * slow)) = (s - e) * (1 / (2 * stop) + 1 / (2 * slow)) := by grind
  have d2 : (e / (2 * go) + e / (2 * stop)) - (s / (2 * go) + (l - s) / (2 * slow)) = (s - e) * (1 / (2 * slow) - 1 / (2 * go)) := by grind
  have d3 : (s / (2 * go) + s / (2 * stop)) - (e / (2 * go) + e / (2 * stop)) = (s - e) * (1 / (2 * go) + 1 / (2 * stop)) := by grind
  have p1 := half_pos h1
  have p2 := half_pos h2
  have p3 := half_pos h3
  have e1 : 1 / (2 * slow) - 1 / (2 * go) = (go - slow) * (2 * (1 / (2 * go)) * (1 / (2 * slow))) := by grind
  have e2 : e / (2 * go) + (l - e) / (2 * slow) = e / (2 * go) + e / (2 * stop) := by rw [k2]
  have p4 : 0 ≤ 1 / (2 * slow) - 1 / (2 * go) := by
    rw [e1]
    have : 0 < 2 * (1 / (2 * go)) := Rat.mul_pos (by decide) p1
    exact Rat.mul_nonneg (by grind) (Rat.le_of_lt (Rat.mul_pos this p3))
  clear e1 k k2
  generalize s / (2 * go) + s / (2 * stop) = A at *
  generalize s / (2 * go) + (l - s) / (2 * slow) = B at *
  generalize hC : e / (2 * go) + e / (2 * stop) = C at *
  generalize 1 / (2 * stop) = a at *
  generalize 1 / (2 * slow) = b at *
  generalize 1 / (2 * go) = c at *
  have q0 : 0 < a + b := by grind
  have q1 : 0 < c + a := by grind
  refine ⟨?_, ?_, e2⟩
  · have := sgn (a := s - e) q0
    rw [← d1] at this
    grind
  · rintro ⟨q3, q4⟩
    have a1 := (sgn (a := s - e) q1).mp (by rw [← d3]; grind)
    have a2 := Rat.mul_nonneg (a := s - e) (Rat.le_of_lt a1) p4
    rw [← d2] at a2
    grind
@[simp] theorem sg_pos {x y : Rat} : (0 < sg x y) = (y < x) := by
  unfold sg
  rw [eq_iff_iff]
  constructor
  · intro h
    by_cases h1 : y < x
    · exact h1
    · simp only [h1, if_false] at h
      split at h <;> omega
  · intro h
    have h2 : ¬ x < y := by grind
    simp [h, h2]
@[simp] theorem sg_np {x y : Rat} : (sg x y ≤ 0) = (x ≤ y) := by
  unfold sg
  rw [eq_iff_iff]
  constructor
  · intro h
    by_cases h1 : y < x
    · have h2 : ¬ x < y := by grind
      simp [h1, h2] at h
    · grind
  · intro h
    have h2 : ¬ y < x := by grind
    simp only [h2, if_false]
    split <;> omega
def gv (go stop v : Int) : Rat := (v : Rat) * v / (2 * (go : Rat)) + (v : Rat) * v / (2 * (stop : Rat))
def gn (go slow lift v : Int) : Rat := (v : Rat) * v / (2 * (go : Rat)) + ((lift : Rat) * lift - (v : Rat) * v) / (2 * (slow : Rat))
theorem cast_pos {a : Int} (h : 1 ≤ a) : (0 : Rat) < a := by
  have : (0 : Int) < a := by omega
  exact_mod_cast this
theorem keyI {go stop slow lift v : Int} (h1 : 1 ≤ go) (h2 : 1 ≤ stop) (h3 : 1 ≤ slow) (h4 : slow ≤ go) :
   (gn go slow lift v < gv go stop v ↔ ev slow stop lift < (v : Rat) * v) ∧ ¬ (nd go slow stop lift < gv go stop v ∧ nd go slow stop lift < gn go slow lift v) ∧
   ev slow stop lift / (2 * (go : Rat)) + ((lift : Rat) * lift - ev slow stop lift) / (2 * (slow : Rat)) = nd go slow stop lift :=
  key go stop slow ((lift : Rat) * lift) (ev slow stop lift) ((v : Rat) * v) (cast_pos h1) (cast_pos h2) (cast_pos h3) (by exact_mod_cast h4) rfl
theorem gvQ {a b c : Int} (ha : Wn a) (hb : Wn b) (hc : Wn c) : Qs 200 (gv a b c) := ((halfQ (sqQ hc) ha).add (halfQ (sqQ hc) hb)).mono (by decide)
theorem gnQ {a b c d : Int} (ha : Wn a) (hb : Wn b) (hc : Wn c) (hd : Wn d) : Qs 200 (gn a b c d) := (((halfQ (sqQ hd) ha).mono (by decide : 44 ≤ 73)).add (halfQ ((sqQ hc).sub (sqQ hd)) hb)).mono (by decide)
theorem given_ok' {S : Store} {a b c : Int} (ha : Wn a) (hb : Wn b) (hc : Wn c) : g_given_up [.d (.int a), .d (.int b), .d (.int c)] S = .ok (.d (dq (gv a b c))) S := given_ok ha hb hc
theorem gone_ok' {S : Store} {a b c d : Int} (ha : Wn a) (hb : Wn b) (hc : Wn c) (hd : Wn d) (h1 : b ≤ a) (h2 : d ≤ c) : g_gone_on [.d (.int a), .d (.int b), .d (.int c), .d (.int d)] S = .ok (.d (dq (gn a b c d))) S := gone_ok ha hb hc hd h1 h2
theorem turn_ok {S : Store} {go stop slow lift v : Int} {x0 x1 x6 x7 x8 x9 x10 x13 x15 x16 x17 x18 : Option Vl} (ha : Wn go) (hb : Wn stop) (hc : Wn slow) (hd : Wn lift) (hv : Wn v) (h1 : slow ≤ go) (h2 : v ≤ lift) :
    ∃ x, l0__law_is_right [x0, x1, some (.d (.int go)), some (.d (.int stop)), some (.d (.int lift)), some (.d (.int slow)), x6, x7, x8, x9, x10, some (.d (dq (ev slow stop lift))), some (.d (dq (nd go slow stop lift))), x13, some (.d (.int v)), x15, x16, x17, x18] S =
      .nx [x0, x1, some (.d (.int go)), some (.d (.int stop)), some (.d (.int lift)), some (.d (.int slow)), x6, x7, x8, x9, x10, some (.d (dq (ev slow stop lift))), some (.d (dq (nd go slow stop lift))), x13, some (.d (.int v)), x, x16, x17, x18] S := by
  obtain ⟨k1, k2, k3⟩ := keyI (lift := lift) (v := v) ha.lo hb.lo hc.lo h1
  have n1 := ndQ ha hc hb hd
  have s1 := lsign_ok (S := S) (gvQ ha hb hv) (n1.mono (by decide)) (by decide)
  have s2 := lsign_ok (S := S) (gnQ ha hc hd hv) (n1.mono (by decide)) (by decide)
  have s3 := lsign_ok (S := S) (gvQ ha hb hv) (gnQ ha hc hd hv) (by decide)
  have s4 := lsign_ok (S := S) ((sqQ hv).mono (by decide : 28 ≤ 42)) (evQ hc hb hd) (by decide)
  refine ⟨some (.d (.list [dq (gv go stop v), dq (gn go slow lift v)])), ?_⟩
  by_cases q1 : nd go slow stop lift < gv go stop v
  · have q2 : ¬ nd go slow stop lift < gn go slow lift v := fun q2 => k2 ⟨q1, q2⟩
    simp [l0__law_is_right, given_ok' ha hb hv, gone_ok' ha hc hd hv h1 h2, s1, s2, s3, s4, q1, q2, k1, oMul_int, hv.bd.ok hv.bd (by decide) (by decide), dq_sq]
  · simp [l0__law_is_right, given_ok' ha hb hv, gone_ok' ha hc hd hv h1 h2, s1, s2, s3, s4, q1, k1, oMul_int, hv.bd.ok hv.bd (by decide) (by decide), dq_sq]
section
variable {S : Store} {a b c d e go stop slow lift v : Int}
theorem llen_sq (ha : Wn a) (hb : Wn b) : g__law_length [.d (.int (a * a)), .d (.int b)] S = .ok (.d (dq ((a : Rat) * a / (2 * (b : Rat))))) S := by
  rw [llength_ok ((ha.bd.mul ha.bd).mono (by decide)) hb, Rat.intCast_mul]
theorem llen_df (ha : Wn a) (hc : Wn c) (hb : Wn b) : g__law_length [.d (.int (a * a - c * c)), .d (.int b)] S = .ok (.d (dq (((a : Rat) * a - (c : Rat) * c) / (2 * (b : Rat))))) S := by
  rw [llength_ok (((ha.bd.mul ha.bd).sub (hc.bd.mul hc.bd)).mono (by decide)) hb, Rat.intCast_sub, Rat.intCast_mul, Rat.intCast_mul]
theorem lfrac_ev (hb : Wn b) (hc : Wn c) (hd : Wn d) : g__law_frac [.d (.int (d * d * c)), .d (.int (b + c))] S = .ok (.d (dq (ev b c d))) S := by
  have := hb.lo
  have := hc.lo
  rw [law_frac_ok (by omega) ((hb.bd.add hc.bd).lt (by decide)), evI hb hc hd]
theorem ltimes_h {x : Rat} {n : Nat} (hx : Qs n x) (hn : n ≤ 1000) (h16 : 16 ≤ n) (hb : Wn b) : g__law_times [.d (dq x), .d (.tuple [.int 1, .int (2 * b)])] S = .ok (.d (dq (x / (2 * (b : Rat))))) S := by
  have := hb.lo
  rw [ltimes_ok hx ((by decide : Bd 1 1).mono (by omega)) (((by decide : Bd 2 2).mul hb.bd).mono (by omega)) (by omega) hn, Rat.divInt_eq_div, Rat.intCast_mul]
  have e : x * (((1 : Int) : Rat) / (((2 : Int) : Rat) * (b : Rat))) = x / (2 * (b : Rat)) := by
    show x * (1 / (2 * (b : Rat))) = _
    have := cast_pos hb.lo
    grind
  rw [e]
theorem nd_nonneg (h1 : 1 ≤ go) (h2 : 1 ≤ stop) (h3 : 1 ≤ slow) (h4 : 1 ≤ lift) : 0 ≤ nd go slow stop lift := by
  have p1 := half_pos (cast_pos h1)
  have p2 := half_pos (cast_pos h2)
  have p3 := cast_pos h2
  have p4 := cast_pos h3
  have p5 := cast_pos h4
  have e0 : 0 ≤ ev slow stop lift := by
    have a1 : 0 < (lift : Rat) * lift * stop := Rat.mul_pos (Rat.mul_pos p5 p5) p3
    have a2 : (0 : Rat) < (slow : Rat) + stop := by grind
    have a3 : 0 < ((slow : Rat) + stop)⁻¹ := Rat.inv_pos.mpr a2
    have a4 := Rat.mul_pos a1 a3
    unfold ev
    rw [Rat.div_def]
    exact Rat.le_of_lt a4
  have b1 := Rat.mul_nonneg e0 (Rat.le_of_lt p1)
  have b2 := Rat.mul_nonneg e0 (Rat.le_of_lt p2)
  unfold nd
  have c1 : ev slow stop lift / (2 * (go : Rat)) = ev slow stop lift * (1 / (2 * (go : Rat))) := by grind
  have c2 : ev slow stop lift / (2 * (stop : Rat)) = ev slow stop lift * (1 / (2 * (stop : Rat))) := by grind
  rw [c1, c2]
  exact Rat.add_nonneg b1 b2
theorem len_ok {n : Int} {x0 x1 x6 x7 x8 x9 x10 x11 x13 x14 x15 x16 x18 : Option Vl} (ha : Wn go) (hb : Wn stop) (hc : Wn slow) (hd : Wn lift) (h1 : slow ≤ go) (hn : 1 ≤ n) (hq : Bd 150 n) :
    l1__law_is_right [x0, x1, some (.d (.int go)), some (.d (.int stop)), some (.d (.int lift)), some (.d (.int slow)), x6, x7, x8, x9, x10, x11, some (.d (dq (nd go slow stop lift))), x13, x14, x15, x16, some (.d (.int n)), x18] S =
      .nx [x0, x1, some (.d (.int go)), some (.d (.int stop)), some (.d (.int lift)), some (.d (.int slow)), x6, x7, x8, x9, x10, x11, some (.d (dq (nd go slow stop lift))), x13, x14, x15, x16, some (.d (.int n)), some (.d (.bool (decide (nd go slow stop lift ≤ n))))] S := by
  have s1 := lsign_ok (S := S) ((ndQ ha hc hb hd).mono (by decide : 117 ≤ 150)) (Qs.int hq (by decide)) (by decide)
  by_cases h : n ≤ 10000
  · have hw : Wn n := ⟨hn, h⟩
    simp [l1__law_is_right, s1, dq_int, h, can_ok hw ha hc hb hd h1, rp_repr (rp_bool _)]
  · simp [l1__law_is_right, s1, dq_int, h]
theorem told4 {x y z u : Rat} (hx : Qs 1900 x) (hy : Qs 1900 y) (hz : Qs 1900 z) (hu : Qs 1900 u) : fRepr [.d (.list [dq x, dq y, dq z, dq u])] S = .ok (.d (.str (PyData.list [dq x, dq y, dq z, dq u]).shown)) S :=
  rp_repr (rp_list (n := 3849) (k := 1) (by
    intro d hd
    simp only [List.mem_cons, List.not_mem_nil, or_false] at hd
    rcases hd with rfl | rfl | rfl | rfl
    · exact hx.rp (by decide)
    · exact hy.rp (by decide)
    · exact hz.rp (by decide)
    · exact hu.rp (by decide))) (by simp) (by decide)
theorem told3 {x y z : Rat} (hx : Qs 1900 x) (hy : Qs 1900 y) (hz : Qs 1900 z) : fRepr [.d (.list [dq x, dq y, dq z])] S = .ok (.d (.str (PyData.list [dq x, dq y, dq z]).shown)) S :=
  rp_repr (rp_list (n := 3849) (k := 1) (by
    intro d hd
    simp only [List.mem_cons, List.not_mem_nil, or_false] at hd
    rcases hd with rfl | rfl | rfl
    · exact hx.rp (by decide)
    · exact hy.rp (by decide)
    · exact hz.rp (by decide))) (by simp) (by decide)
theorem nd_four (h1 : 1 ≤ go) (h2 : 1 ≤ stop) (h3 : 1 ≤ slow) : nd go slow stop (2 * lift) = nd go slow stop lift * Rat.divInt 4 1 := by
  have p1 := cast_pos h1
  have p2 := cast_pos h2
  have p3 := cast_pos h3
  have q1 : (go : Rat) ≠ 0 := by grind
  have q2 : (stop : Rat) ≠ 0 := by grind
  have q3 : (slow : Rat) + stop ≠ 0 := by grind
  have e1 : ev slow stop (2 * lift) = 4 * ev slow stop lift := by
    unfold ev
    rw [Rat.intCast_mul]
    show (2 : Rat) * lift * (2 * lift) * stop / (slow + stop) = _
    grind
  have e2 : Rat.divInt 4 1 = 4 := by rfl
  unfold nd
  rw [e1, e2]
  grind
theorem walk_ok {S : Store} {x0 x1 x6 x7 x8 x9 x10 x13 x16 x17 x18 : Option Vl} (ha : Wn go) (hb : Wn stop) (hc : Wn slow) (hd : Wn lift) (h1 : slow ≤ go) : ∀ (xs : List D) (x14 x15 : Option Vl), (∀ x ∈ xs, ∃ i : Int, x = .int i ∧ 1 ≤ i ∧ i ≤ lift) →
    ∃ y14 y15, forL (gN 14) l0__law_is_right xs [x0, x1, some (.d (.int go)), some (.d (.int stop)), some (.d (.int lift)), some (.d (.int slow)), x6, x7, x8, x9, x10, some (.d (dq (ev slow stop lift))), some (.d (dq (nd go slow stop lift))), x13, x14, x15, x16, x17, x18] S =
      .nx [x0, x1, some (.d (.int go)), some (.d (.int stop)), some (.d (.int lift)), some (.d (.int slow)), x6, x7, x8, x9, x10, some (.d (dq (ev slow stop lift))), some (.d (dq (nd go slow stop lift))), x13, y14, y15, x16, x17, x18] S
  | [], x14, x15, _ => ⟨x14, x15, rfl⟩
  | x :: xs, x14, x15, h => by
    obtain ⟨i, rfl, h2, h3⟩ := h x (by simp)
    obtain ⟨y, e⟩ := turn_ok (S := S) (x0 := x0) (x1 := x1) (x6 := x6) (x7 := x7) (x8 := x8) (x9 := x9) (x10 := x10) (x13 := x13) (x15 := x15) (x16 := x16) (x17 := x17) (x18 := x18) ha hb hc hd ⟨h2, by have := hd.hi; omega⟩ h1 h3
    obtain ⟨y14, y15, e2⟩ := walk_ok ha hb hc hd h1 xs (some (.d (.int i))) y (fun z hz => h z (by simp [hz]))
    refine ⟨y14, y15, ?_⟩
    rw [ap_forL1]
    simp [e]
    exact e2
theorem Hand.one {S : Store} (h : Hand S) : S.length = 1 := by
  obtain ⟨_, _, _, _, _, _, rfl⟩ := h
  rfl
theorem right_ok (S : Store) (H : Hand S) : ∃ S', Hand S' ∧ g__law_is_right [.loc 0] S = .ok (.d (.bool true)) S' := by
  obtain ⟨x, S0, hx, H0, e0⟩ := some_ok (xs := [.int 4, .int 20, .int 300]) (S := S) (by simp) (by simp) H
  obtain ⟨t, rfl, ht1, ht2⟩ : ∃ t : Int, x = .int t ∧ 1 ≤ t ∧ t ≤ 300 := by
    simp only [List.mem_cons, List.not_mem_nil, or_false] at hx
    rcases hx with rfl | rfl | rfl
    · exact ⟨4, rfl, by decide, by decide⟩
    · exact ⟨20, rfl, by decide, by decide⟩
    · exact ⟨300, rfl, by decide, by decide⟩
  obtain ⟨r1, S1, a1, b1, H1, e1⟩ := draw_ok t S0 (by omega) (by omega) H0
  obtain ⟨r2, S2, a2, b2, H2, e2⟩ := draw_ok t S1 (by omega) (by omega) H1
  obtain ⟨r3, S3, a3, b3, H3, e3⟩ := draw_ok t S2 (by omega) (by omega) H2
  obtain ⟨r4, S4, a4, b4, H4, e4⟩ := draw_ok (1 + r1) S3 (by omega) (by omega) H3
  obtain ⟨r5, S5, a5, b5, H5, e5⟩ := draw_ok (1 + r3) S4 (by omega) (by omega) H4
  obtain ⟨r6, S6, a6, b6, H6, e6⟩ := draw_ok 10000 S5 (by omega) (by omega) H5
  generalize hgo : 1 + r1 = go at *
  generalize hst : 1 + r2 = stop at *
  generalize hli : 1 + r3 = lift at *
  generalize hsl : 1 + r4 = slow at *
  generalize hsp : 1 + r5 = v at *
  have wg : Wn go := ⟨by omega, by omega⟩
  have ws : Wn stop := ⟨by omega, by omega⟩
  have wl : Wn lift := ⟨by omega, by omega⟩
  have wo : Wn slow := ⟨by omega, by omega⟩
  have wv : Wn v := ⟨by omega, by omega⟩
  have wl2 : Wn (2 * lift) := ⟨by omega, by omega⟩
  have so : slow ≤ go := by omega
  have vl : v ≤ lift := by omega
  obtain ⟨k1, k2, k3⟩ := keyI (lift := lift) (v := v) wg.lo ws.lo wo.lo so
  have Q := ndQ wg wo ws wl
  have E := evQ wo ws wl
  have p1 := fun S => lplus_ok (S := S) (halfQ (sqQ wv) wg) (halfQ (sqQ wv) ws) (by decide)
  have p2 := fun S => lplus_ok (S := S) ((halfQ (sqQ wv) wg).mono (by decide : 44 ≤ 73)) (halfQ ((sqQ wl).sub (sqQ wv)) wo) (by decide)
  have p3 := fun S => lplus_ok (S := S) (halfQ E wg) (halfQ E ws) (by decide)
  have lq : Qs 42 ((lift : Rat) * lift) := (sqQ wl).mono (by decide)
  have p4 := fun S => lless_ok (S := S) lq E (by decide)
  have p5 := fun S => lplus_ok (S := S) ((halfQ E wg).mono (by decide : 58 ≤ 101)) (halfQ (lq.sub E) wo) (by decide)
  rw [k3] at p5
  have t1 := fun S => ltimes_h (S := S) E (by decide) (by decide) wg
  have t2 := fun S => ltimes_h (S := S) E (by decide) (by decide) ws
  have t3 := fun S => ltimes_h (S := S) (lq.sub E) (by decide) (by decide) wo
  have t4 := fun S => ltimes_ok (S := S) Q ((by decide : Bd 3 4).mono (by decide)) ((by decide : Bd 1 1).mono (by decide)) (by decide : (0 : Int) < 1) (by decide)
  obtain ⟨y14, y15, w⟩ := walk_ok (S := S5) (x0 := some (.loc 0)) (x1 := some (.d (.int t))) (x6 := some (.d (.int v))) (x7 := some (.d (dq (gv go stop v)))) (x8 := some (.d (dq (gn go slow lift v))))
    (x9 := some (.d (.list [dq ((lift : Rat) * lift / (2 * (go : Rat))), dq ((v : Rat) * v / (2 * (stop : Rat))), dq (gv go stop v), dq (gn go slow lift v)])))
    (x10 := some (.d (.list [dq (ev slow stop lift), dq (nd go slow stop lift), dq (nd go slow stop lift)]))) (x13 := some (.d (dq ((lift : Rat) * lift - ev slow stop lift)))) (x16 := none) (x17 := none) (x18 := none) wg ws wo wl so
    (rangeD 1 (min lift 30 + 1)) none none (by
      intro x hx
      simp only [rangeD, List.mem_map, List.mem_range] at hx
      obtain ⟨i, hi, rfl⟩ := hx
      exact ⟨_, rfl, by omega, by omega⟩)
  have nn := nd_nonneg wg.lo ws.lo wo.lo wl.lo
  have dp := den_pos (nd go slow stop lift)
  have np : 0 ≤ (nd go slow stop lift).num := by rw [Rat.num_nonneg]; exact nn
  have fl : 0 ≤ (nd go slow stop lift).num / (nd go slow stop lift).den := Int.ediv_nonneg np (Int.le_of_lt dp)
  have fb : Bd 117 ((nd go slow stop lift).num / (nd go slow stop lift).den) := Nat.lt_of_le_of_lt (Int.natAbs_ediv_le_natAbs _ _) Q.num
  have dv := fun S => oDiv_int (S := S) (i := (nd go slow stop lift).num) dp (Q.den.lt (by decide))
  generalize (nd go slow stop lift).num / (nd go slow stop lift).den = fl0 at *
  have fm : Bd 118 (max 1 fl0) := by
    have : Bd 118 fl0 := fb.mono (by decide)
    have : Bd 118 1 := by decide
    unfold Bd at *
    omega
  have f1 : Bd 118 (fl0 + 1) := fb.add (by exact (by decide : Bd 1 1).mono (by decide))
  have f2 : Bd 118 (1 + r6) := by
    show (1 + r6).natAbs < 2 ^ 118
    omega
  have hl1 : min lift 30 + 1 < 4611686018427387904 := by omega
  have hl2 : -4611686018427387904 ≤ min lift 30 + 1 := by omega
  have m1 : mulOk lift lift = true := wl.bd.ok wl.bd (by decide) (by decide)
  have m2 : mulOk v v = true := wv.bd.ok wv.bd (by decide) (by decide)
  have m3 : mulOk (lift * lift) stop = true := (wl.bd.mul wl.bd).ok ws.bd (by decide) (by decide)
  have m4 : mulOk 2 go = true := mulOk_l (by decide)
  have m5 : mulOk 2 stop = true := mulOk_l (by decide)
  have m6 : mulOk 2 slow = true := mulOk_l (by decide)
  have m7 : mulOk 2 lift = true := mulOk_l (by decide)
  refine ⟨S6, H6, ?_⟩
  have q1 : Qs 1900 ((lift : Rat) * lift / (2 * (go : Rat))) := (halfQ (sqQ wl) wg).mono (by decide)
  have q2 : Qs 1900 ((v : Rat) * v / (2 * (stop : Rat))) := (halfQ (sqQ wv) ws).mono (by decide)
  have tk : S6.take S.length = S6 := by
    rw [H.one]
    exact List.take_of_length_le (Nat.le_of_eq H6.one)
  have g1 : (v : Rat) * v / (2 * (go : Rat)) + (v : Rat) * v / (2 * (stop : Rat)) = gv go stop v := rfl
  have g2 : (v : Rat) * v / (2 * (go : Rat)) + ((lift : Rat) * lift - (v : Rat) * v) / (2 * (slow : Rat)) = gn go slow lift v := rfl
  have g3 : ev slow stop lift / (2 * (go : Rat)) + ev slow stop lift / (2 * (stop : Rat)) = nd go slow stop lift := rfl
  rw [g1] at p1
  rw [g2] at p2
  rw [g3] at p3
  have d1 : Vl.d (.tuple [.int 1, .int 0]) = Vl.d (.tuple [.int 1, .int 0]) := rfl
  have u0 : t0__law_is_right [some (.loc 0), none, none, none, none, none, none, none, none, none, none, none, none, none, none, none, none, none, none] S = .nx [some (.loc 0), some (.d (.int t)), none, none, none, none, none, none, none, none, none, none, none, none, none, none, none, none, none] S0 := by simp [t0__law_is_right, e0]
  have u1 : t1__law_is_right [some (.loc 0), some (.d (.int t)), none, none, none, none, none, none, none, none, none, none, none, none, none, none, none, none, none] S0 = .nx [some (.loc 0), some (.d (.int t)), some (.d (.int go)), some (.d (.int stop)), some (.d (.int lift)), none, none, none, none, none, none, none, none, none, none, none, none, none, none] S3 := by simp [t1__law_is_right, e1, e2, e3, hgo, hst, hli]
  have u2 : t2__law_is_right [some (.loc 0), some (.d (.int t)), some (.d (.int go)), some (.d (.int stop)), some (.d (.int lift)), none, none, none, none, none, none, none, none, none, none, none, none, none, none] S3 = .nx [some (.loc 0), some (.d (.int t)), some (.d (.int go)), some (.d (.int stop)), some (.d (.int lift)), some (.d (.int slow)), some (.d (.int v)), none, none, none, none, none, none, none, none, none, none, none, none] S5 := by simp [t2__law_is_right, e4, e5, hsl, hsp]
  have rest : (sCons t3__law_is_right (sCons t4__law_is_right (sCons t5__law_is_right (sCons t6__law_is_right (sCons t7__law_is_right (sCons t8__law_is_right (sCons t9__law_is_right (sCons t10__law_is_right (sCons t11__law_is_right (sCons t12__law_is_right (sCons t13__law_is_right (sCons t14__law_is_right (sCons t15__law_is_right (sCons t16__law_is_right t17__law_is_right)))))))))))))) [some (.loc 0), some (.d (.int t)), some (.d (.int go)), some (.d (.int stop)), some (.d (.int lift)), some (.d (.int slow)), some (.d (.int v)), none, none, none, none, none, none, none, none, none, none, none, none] S5 = .ret (.d (.bool true)) S6 := by
    rw [ap_sCons]
    conv => lhs; arg 1; simp [t3__law_is_right, oMul_int, m2, llen_sq wv wg, llen_sq wv ws, p1]
    rw [seq_nx, ap_sCons]
    conv => lhs; arg 1; simp [t4__law_is_right, oMul_int, m1, m2, llen_sq wv wg, llen_df wl wv wo, p2]
    rw [seq_nx, ap_sCons]
    conv => lhs; arg 1; simp [t5__law_is_right, oMul_int, m1, m2, llen_sq wl wg, llen_sq wv ws]
    rw [seq_nx, ap_sCons]
    conv => lhs; arg 1; simp [t6__law_is_right, roll_ok wg wl, stop_ok ws wv, given_ok' wg ws wv, gone_ok' wg wo wl wv so vl]
    rw [seq_nx, ap_sCons]
    conv => lhs; arg 1; simp [t7__law_is_right, told4 q1 q2 ((gvQ wg ws wv).mono (by decide)) ((gnQ wg wo wl wv).mono (by decide))]
    rw [seq_nx, ap_sCons]
    conv => lhs; arg 1; simp [t8__law_is_right, oMul_int, m1, m3, lfrac_ev wo ws wl]
    rw [seq_nx, ap_sCons]
    conv => lhs; arg 1; simp [t9__law_is_right, oMul_int, m4, m5, t1, t2, p3]
    rw [seq_nx, ap_sCons]
    conv => lhs; arg 1; simp [t10__law_is_right, even_ok wg wo ws wl so, needed_ok wg wo ws wl so]
    rw [seq_nx, ap_sCons]
    conv => lhs; arg 1; simp [t11__law_is_right, told3 (E.mono (by decide)) (Q.mono (by decide)) (Q.mono (by decide))]
    rw [seq_nx, ap_sCons]
    conv => lhs; arg 1; simp [t12__law_is_right, oMul_int, m1, dq_sq, p4]
    rw [seq_nx, ap_sCons]
    conv => lhs; arg 1; simp [t13__law_is_right, oMul_int, m4, m6, t1, t3, p5]
    rw [seq_nx, ap_sCons]
    conv => lhs; arg 1; simp [t14__law_is_right, iRange, hl1, hl2, w]
    rw [seq_nx, ap_sCons]
    conv => lhs; arg 1; simp [t15__law_is_right, dv]
    rw [seq_nx, ap_sCons]
    conv => lhs; arg 1; simp [t16__law_is_right, e6, seqOf, ap_forL1, len_ok wg ws wo wl so (by omega : 1 ≤ max 1 fl0) (fm.mono (by decide)), len_ok wg ws wo wl so (by omega : 1 ≤ fl0 + 1) (f1.mono (by decide)), len_ok wg ws wo wl so (by omega : 1 ≤ 1 + r6) (f2.mono (by decide))]
    rw [seq_nx]
    simp [t17__law_is_right, oMul_int, m7, needed_ok wg wo ws wl2 so, t4, nd_four wg.lo ws.lo wo.lo]
  have ar : List.map some [Vl.loc 0] ++ List.replicate (19 - [Vl.loc 0].length) none = [some (.loc 0), none, none, none, none, none, none, none, none, none, none, none, none, none, none, none, none, none, none] := rfl
  rw [g__law_is_right, ap_fnOf, ar, b__law_is_right, ap_sCons, u0, seq_nx, ap_sCons, u1, seq_nx, ap_sCons, u2, seq_nx, rest]
  simp [tk]
theorem hand_ok (ns : List Int) (h : ns.length ≤ 63) : ∃ S, Hand S ∧ g__law_hand [.scr ns] [] = .ok (.loc 0) S := by
  have cut : cutD (ns.map PyData.int) none (some 63) = ns.map PyData.int := cut63 h
  have lc := lcL_all (tg := gN 2) (f := l0__law_hand) (ρ := [some (.scr ns), none, none]) absD (S := []) (ns.map PyData.int) [] (fun x hx => by
    obtain ⟨i, _, rfl⟩ := List.mem_map.mp hx
    exact ⟨_, rfl, by simp [l0__law_hand, absD]⟩) (by simp; omega)
  have lc2 : (ns.map PyData.int).map absD = (ns.map fun i => (i.natAbs : Int)).map PyData.int := by simp [absD]
  rw [lc2] at lc
  refine ⟨[hand (ns.map fun i => (i.natAbs : Int)) 0 0 (431 + 7 * ns.length) 0], ⟨_, _, _, _, _, ⟨fun c hc => ?_, by decide, by decide, by omega, by decide⟩, rfl⟩, ?_⟩
  · obtain ⟨i, _, rfl⟩ := List.mem_map.mp hc
    omega
  · have m : mulOk 7 (ns.length : Int) = true := mulOk_l (by decide)
    simp [g__law_hand, ap_fnOf, b__law_hand, slV, cut, seqOf, List.replicate, wipeE]
    simp at lc
    simp [lc, oMul_int, m, leave, hand]
theorem all_ok : ∀ (xs : List D) (acc : List D) (S : Store) (ρ : Env), Hand S → acc.length + xs.length ≤ 1000 → ρ[1]? = some (some (.loc 0)) → ρ.length = 3 →
    ∃ S', Hand S' ∧ lcL (gN 2) tYesD l0_law ρ xs acc S = .ok (acc ++ List.replicate xs.length (.bool true)) S'
  | [], acc, S, ρ, H, _, _, _ => ⟨S, H, by simp⟩
  | x :: xs, acc, S, ρ, H, hl, h1, h2 => by
    obtain ⟨S1, H1, e⟩ := right_ok S H
    have hl' : acc.length + (xs.length + 1) ≤ 1000 := hl
    obtain ⟨S2, H2, e2⟩ := all_ok xs (acc ++ [.bool true]) S1 ρ H1 (by simp; omega) h1 h2
    refine ⟨S2, H2, ?_⟩
    have hs : acc.length < sizeLine := Nat.lt_of_lt_of_le (by omega) (line1000 (Nat.le_refl 1000))
    have e3 : (ρ.set 2 (some (.d x)))[1]? = some (some (.loc 0)) := by rw [List.getElem?_set_ne (by decide)]; exact h1
    have e4 : l0_law (ρ.set 2 (some (.d x))) S = .ok (.d (.bool true)) S1 := by simp [l0_law, e3, e]
    unfold lcL
    simp [e4, hs, e2, List.replicate_succ]
theorem dq_eq {q : Rat} {a b : Int} (h : q.num = a) (h2 : (q.den : Int) = b) : PyData.tuple [.int a, .int b] = dq q := by rw [dq, h, h2]
theorem law_true (ns : List Int) (h : ns.length ≤ 63) : ∃ S, g_law [.scr ns] [] = .ok (.d (.bool true)) S := by
  obtain ⟨S, H, e⟩ := hand_ok ns h
  have W : ∀ i : Int, 1 ≤ i → i ≤ 10000 → Wn i := fun i a b => ⟨a, b⟩
  have w1 := W 1 (by decide) (by decide)
  have w2 := W 2 (by decide) (by decide)
  have w3 := W 3 (by decide) (by decide)
  have w4 := W 4 (by decide) (by decide)
  have w5 := W 5 (by decide) (by decide)
  have w6 := W 6 (by decide) (by decide)
  obtain ⟨S', H', e2⟩ := all_ok (rangeD 0 8) [] S [some (.scr ns), some (.loc 0), none] H (by decide) rfl rfl
  have c1 : (PyData.tuple [.int 9, .int 1]) = dq (((6 : Int) : Rat) * ((6 : Int) : Rat) / (2 * ((2 : Int) : Rat))) := dq_eq (by decide +kernel) (by decide +kernel)
  have c2 : (PyData.tuple [.int 8, .int 3]) = dq (((4 : Int) : Rat) * ((4 : Int) : Rat) / (2 * ((3 : Int) : Rat))) := dq_eq (by decide +kernel) (by decide +kernel)
  have c3 : (PyData.tuple [.int 6, .int 1]) = dq (gv 2 4 4) := dq_eq (by decide +kernel) (by decide +kernel)
  have c4 : (PyData.tuple [.int 14, .int 1]) = dq (gn 2 1 6 4) := dq_eq (by decide +kernel) (by decide +kernel)
  have c5 : (PyData.tuple [.int 12, .int 1]) = dq (ev 1 3 4) := dq_eq (by decide +kernel) (by decide +kernel)
  have c6 : (PyData.tuple [.int 5, .int 1]) = dq (nd 2 1 3 4) := dq_eq (by decide +kernel) (by decide +kernel)
  have c7 : nd 2 1 3 4 ≤ ((5 : Int) : Rat) := by decide +kernel
  have c8 : ¬ nd 2 1 3 4 ≤ ((4 : Int) : Rat) := by decide +kernel
  have hr : rangeD 0 8 = [.int 0, .int 1, .int 2, .int 3, .int 4, .int 5, .int 6, .int 7] := rfl
  have r1 := fun S => roll_ok (S := S) w2 w6
  have r2 := fun S => stop_ok (S := S) w3 w4
  have r3 := fun S => given_ok' (S := S) w2 w4 w4
  have r4 := fun S => gone_ok' (S := S) w2 w1 w6 w4 (by decide) (by decide)
  have r5 := fun S => even_ok (S := S) w2 w1 w3 w4 (by decide)
  have r6 := fun S => needed_ok (S := S) w2 w1 w3 w4 (by decide)
  have r7 := fun S => can_ok (S := S) w5 w2 w1 w3 w4 (by decide)
  have r8 := fun S => can_ok (S := S) w4 w2 w1 w3 w4 (by decide)
  rw [← c1] at r1
  rw [← c2] at r2
  rw [← c3] at r3
  rw [← c4] at r4
  rw [← c5] at r5
  rw [← c6] at r6
  rw [decide_eq_true c7] at r7
  rw [decide_eq_false c8] at r8
  have sh : ∀ a b : Int, shal (.tuple [.int a, .int b]) = true := fun a b => rfl
  have ee : ∀ a b : Int, PyData.eqv (.tuple [.int a, .int b]) (.tuple [.int a, .int b]) = true := fun a b => eqv_refl _ rfl
  refine ⟨[], ?_⟩
  simp [g_law, ap_fnOf, b_law, t0_law, t1_law, t2_law, t3_law, t4_law, t5_law, e, List.replicate, r1, r2, r3, r4, r5, r6, r7, r8, oNe, sh, ee, iRange, wipeE, e2]
  simp [fAll, fSeq, seqOf, seqOk, hr, PyData.plainAll, PyData.plain, PyData.depthAll, PyData.depth, fitsB, PyData.truthy]
end
end Dl
open PySem.W PyProof.Rows PySem
set_option maxHeartbeats 0 in
theorem PySem.Challenge.cw_airfield_k46_whole_lengths_of_rolls_holds : PySem.Challenge.rw_airfield_k46_whole_lengths_of_rolls.Holds := by
  w_on; o_law; k_head; (case hw => w_witness2)
  k_fill
  refine Dl.walk_fk (l := PySem.Challenge.rw_airfield_k46_whole_lengths_of_rolls) (n := 63) (k := 8) (x := "script") (g := Dl.g_law) rfl (by decide) rfl ⟨rfl, by decide, by decide⟩ (fun w h Y => PySem.W.kIn_of Y) ?F Dl.law_true
  case F =>
    intro w mg fa h KX G hmg
    refine Dl.ok_law ⟨?_, ?_, ?_, ?_, ?_, ?_, ?_, ?_, ?_, ?_, ?_, ?_, ?_, ?_, ?_, ?_, ?_, ?_, ?_, ?_, ?_, ?_, ?_, ?_, ?_, ?_, ?_, ?_, ?_, ?_, ?_, ?_, ?_, ?_, ?_, ?_, ?_, ?_, ?_, ?_, ?_, ?_, ?_, ?_⟩ hmg
    · refine' Dl.DefF.mk' KX G ?a ?l ?c ?k; (case a => k_is); (case l => k_is); (case c => k_is); (case k => k_is)
    · refine' Dl.DefF.mk' KX G ?a ?l ?c ?k; (case a => k_is); (case l => k_is); (case c => k_is); (case k => k_is)
    · refine' Dl.DefF.mk' KX G ?a ?l ?c ?k; (case a => k_is); (case l => k_is); (case c => k_is); (case k => k_is)
    · refine' Dl.DefF.mk' KX G ?a ?l ?c ?k; (case a => k_is); (case l => k_is); (case c => k_is); (case k => k_is)
    · refine' Dl.DefF.mk' KX G ?a ?l ?c ?k; (case a => k_is); (case l => k_is); (case c => k_is); (case k => k_is)
    · refine' Dl.DefF.mk' KX G ?a ?l ?c ?k; (case a => k_is); (case l => k_is); (case c => k_is); (case k => k_is)
    · refine' Dl.DefF.mk' KX G ?a ?l ?c ?k; (case a => k_is); (case l => k_is); (case c => k_is); (case k => k_is)
    · refine' Dl.DefF.mk' KX G ?a ?l ?c ?k; (case a => k_is); (case l => k_is); (case c => k_is); (case k => k_is)
    · refine' Dl.DefF.mk' KX G ?a ?l ?c ?k; (case a => k_is); (case l => k_is); (case c => k_is); (case k => k_is)
    · refine' Dl.DefF.mk' KX G ?a ?l ?c ?k; (case a => k_is); (case l => k_is); (case c => k_is); (case k => k_is)
    · refine' Dl.DefF.mk' KX G ?a ?l ?c ?k; (case a => k_is); (case l => k_is); (case c => k_is); (case k => k_is)
    · refine' Dl.DefF.mk' KX G ?a ?l ?c ?k; (case a => k_is); (case l => k_is); (case c => k_is); (case k => k_is)
    · refine' Dl.DefF.mk' KX G ?a ?l ?c ?k; (case a => k_is); (case l => k_is); (case c => k_is); (case k => k_is)
    · refine' Dl.DefF.mk' KX G ?a ?l ?c ?k; (case a => k_is); (case l => k_is); (case c => k_is); (case k => k_is)
    · refine' Dl.DefF.mk' KX G ?a ?l ?c ?k; (case a => k_is); (case l => k_is); (case c => k_is); (case k => k_is)
    · refine' Dl.DefF.mk' KX G ?a ?l ?c ?k; (case a => k_is); (case l => k_is); (case c => k_is); (case k => k_is)
    · refine' Dl.DefF.mk' KX G ?a ?l ?c ?k; (case a => k_is); (case l => k_is); (case c => k_is); (case k => k_is)
    · refine' Dl.DefF.mk' KX G ?a ?l ?c ?k; (case a => k_is); (case l => k_is); (case c => k_is); (case k => k_is)
    · refine' Dl.DefF.mk' KX G ?a ?l ?c ?k; (case a => k_is); (case l => k_is); (case c => k_is); (case k => k_is)
    · refine' Dl.DefF.mk' KX G ?a ?l ?c ?k; (case a => k_is); (case l => k_is); (case c => k_is); (case k => k_is)
    · refine' Dl.DefF.mk' KX G ?a ?l ?c ?k; (case a => k_is); (case l => k_is); (case c => k_is); (case k => k_is)
    · refine' Dl.DefF.mk' KX G ?a ?l ?c ?k; (case a => k_is); (case l => k_is); (case c => k_is); (case k => k_is)
    · refine' Dl.DefF.mk' KX G ?a ?l ?c ?k; (case a => k_is); (case l => k_is); (case c => k_is); (case k => k_is)
    · refine' Dl.DefF.mk' KX G ?a ?l ?c ?k; (case a => k_is); (case l => k_is); (case c => k_is); (case k => k_is)
    · refine' Dl.DefF.mk' KX G ?a ?l ?c ?k; (case a => k_is); (case l => k_is); (case c => k_is); (case k => k_is)
    · refine' Dl.DefF.mk' KX G ?a ?l ?c ?k; (case a => k_is); (case l => k_is); (case c => k_is); (case k => k_is)
    · refine' Dl.DefF.mk' KX G ?a ?l ?c ?k; (case a => k_is); (case l => k_is); (case c => k_is); (case k => k_is)
    · refine' Dl.DefF.mk' KX G ?a ?l ?c ?k; (case a => k_is); (case l => k_is); (case c => k_is); (case k => k_is)
    · refine' Dl.DefF.mk' KX G ?a ?l ?c ?k; (case a => k_is); (case l => k_is); (case c => k_is); (case k => k_is)
    · refine' Dl.DefF.mk' KX G ?a ?l ?c ?k; (case a => k_is); (case l => k_is); (case c => k_is); (case k => k_is)
    · refine' Dl.DefF.mk' KX G ?a ?l ?c ?k; (case a => k_is); (case l => k_is); (case c => k_is); (case k => k_is)
    · refine' Dl.DefF.mk' KX G ?a ?l ?c ?k; (case a => k_is); (case l => k_is); (case c => k_is); (case k => k_is)
    · refine' PySem.W.mg_none_of KX G ?z; (case z => k_is)
    · refine' PySem.W.mg_none_of KX G ?z; (case z => k_is)
    · refine' PySem.W.mg_none_of KX G ?z; (case z => k_is)
    · refine' PySem.W.mg_none_of KX G ?z; (case z => k_is)
    · refine' PySem.W.mg_none_of KX G ?z; (case z => k_is)
    · refine' PySem.W.mg_none_of KX G ?z; (case z => k_is)
    · refine' PySem.W.mg_none_of KX G ?z; (case z => k_is)
    · refine' PySem.W.mg_none_of KX G ?z; (case z => k_is)
    · refine' PySem.W.mg_none_of KX G ?z; (case z => k_is)
    · refine' PySem.W.mg_none_of KX G ?z; (case z => k_is)
    · refine' Dl.ExF.mk' KX G ?a ?b ?c ?d ?e; (case a => k_is); (case b => k_exc); (case c => k_is); (case d => k_is); (case e => k_is)
    · refine' Dl.IntF.mk' KX G ?a; (case a => k_is)
