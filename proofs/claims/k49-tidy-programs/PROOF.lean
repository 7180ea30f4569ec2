import PyProof.Rows.All
import Wide.All
import OpenK.AllK
import Wide.FinOn
import PyProof.EqAt
import PyProof.EqKinds
import PyProof.TupleCall
import HandS.ForMost
import HandS.Exc
import HandS.ExcOwn
import HandS.WordsExc
import HandS.Defaults
import HandS.CallSlots
import HandS.Deep
import HandS.TupAny
import HandS.Style
import HandS.Zip
import HandS.Text
import HandS.TupMul
import HandS.More
import PyProof.StrOps2
import PyProof.ReprRoads
import HandS.Comp
import PyProof.Draws
import PyProof.EnumMake
import HandS.Head2
import HandS.HeadEnd
import HandS.HeadHook4
import PySem.Challenge.RW_asfound_k49_tidy_programs
import KE.KStateDown
section
set_option Elab.async false
set_option linter.all false
set_option maxRecDepth 100000
set_option maxHeartbeats 2000000
/-! Dn: a def's promise where nothing is being shown (repr wants to know that): FnG, its call, its rule, the law's end. -/
namespace Dn
open PySem PySem.Spec PyProof.Rows L2
structure FnG (P : Program) (w : World) (K : PySem.W.Frag) (mg : Str → Option Value) (base : Heap) (k : Nat) (f : Addr) (fd : FuncData) (ps : List Str) (sp : Sp) : Prop where
  len : ∀ vs H Q E, sp vs H Q E → vs.length = ps.length
  run : ∀ (A : Around) (outer : List PySem.Env) (s : Shared) (H : Hp) (args : Args) (us : List Value) (vs : List V) (Q : VK) (E : XK), Room k A → A.guards = some [] → Env0 P w K mg base A outer s H → BindsTo s fd args (ps.zip us) → Vals vs us →
    sp vs H Q E → codeAny (model P w) A (.call (.ref f) args) (CR (L2.CX P w) outer P w H s Q E) s
theorem FnG.mono {P : Program} {w : World} {K : PySem.W.Frag} {mg : Str → Option Value} {base : Heap} {j k : Nat} {f : Addr} {fd : FuncData} {ps : List Str} {sp : Sp} (F : FnG P w K mg base j f fd ps sp) (h : j ≤ k) : FnG P w K mg base k f fd ps sp :=
  ⟨F.len, fun A outer s H args us vs Q E hr => F.run A outer s H args us vs Q E (hr.mono h)⟩
section
variable {X : Cx} {k : Nat} {f : Addr} {fd : FuncData} {ps : List Str} {sp : Sp} {dvs : List V} {ds : List Value} {E : L2.St → XK} {x : Str} {p pos : Pos} {e : Expr} {es : List Expr} {t : TA}
theorem run_G {pins : List (Addr × Obj)} {σ : L2.St} {H : Hp} {s : Shared} {Q : VK} {us : List Value} {vs : List V} (F : FnG X.prog X.w X.K X.mg X.base k f fd ps sp) (hr : Room k X.A) (hG : X.A.guards = some []) (hb : Binds X.K fd ps ds) (hd : Vals dvs ds)
    (hx : PassesAt (L2.CX X.prog X.w) X σ (E σ)) (I : Inv X pins σ H s) (r : Vals vs us) (h : sp (vs ++ dvs) H Q (E σ)) : wpAny (model X.prog X.w) X.A (call (.ref f) us) (EP X pins σ Q) X.xe s := by
  have r2 : Vals (vs ++ dvs) (us ++ ds) := r.append hd
  have hl : (us ++ ds).length = ps.length := r2.length.symm.trans (F.len _ _ _ _ h)
  refine wpAny_call (codeAny_mono (F.run X.A X.stack s H ⟨us, []⟩ (us ++ ds) (vs ++ dvs) Q (E σ) hr hG I.env0 (hb s us I.kIn hl) r2 h) fun r s' hq => ?_)
  rcases r with e | fl
  · exact hx pins H s e s' I hq
  · cases fl
    case ret u => exact I.after hq
    all_goals exact False.elim hq
theorem pe_callG (F : FnG X.prog X.w X.K X.mg X.base k f fd ps sp) (hr : Room k X.A) (hG : X.A.guards = some []) (hg : Gl X x) (hm : X.mg x = some (.ref f)) (hk : PySem.W.keepIn X.K (.ref f) = true) (hb : Binds X.K fd ps ds) (hd : Vals dvs ds)
    (hx : ∀ σ, PassesAt (L2.CX X.prog X.w) X σ (E σ)) (ha : PA X (e :: es) t) (hdb : (x == ("__debug__" : Str)) = false := by decide) (he : starEach (e :: es) X.env = (false, eval e X.env) :: starEach es X.env := by rfl)
    (hpl : (backTo pos (starEach es X.env)).any (·.1) = false := by rfl) : PE X (.Call (.Name x p) (e :: es) [] pos) (tCallSD sp dvs E t) :=
  ⟨fun pins s σ H Q I h => wpAny_Call_Name_kw (ld_glob I hg hm (PySem.W.callWith_K (h₀ := X.base) I.ok.mod.kin hk (thn (ha.run pos pins s σ H _ I h) fun us s1 ⟨vs, H1, I1, r, q⟩ => ⟨I1.kIn, run_G F hr hG hb hd (hx σ) I1 r q⟩) he hpl) hdb)⟩
end
/-- a def of the text keeps its promise, by its body's reading -/
theorem fn_G {P : Program} {w : World} {K : PySem.W.Frag} {mg : Str → Option Value} {base : Heap} {x qual : Str} {params : Arguments} {body : List Stmt} {scope : Scope} {dvs : List V} {kws : List (Str × V)} {f : Addr} {fd : FuncData} {N ps : List Str} {k : Nat} {sp : Sp}
    (Fn : FunD K x qual params body scope dvs kws f fd) (S : FnScope N ps scope) (len : ∀ vs H Q E, sp vs H Q E → vs.length = ps.length)
    (hbody : ∀ (cdv : Value) (A : Around) (outer : List PySem.Env) (s : Shared) (H : Hp) (vs : List V) (Q : VK) (E : XK), Room k (A.deeper (envOfC qual scope s.heap.objs.size f cdv)) → A.guards = some [] → sp vs H Q E →
      ∃ t, PSs (cxOf (L2.CX P w) P w K mg base N qual scope f cdv A outer s H E) body t ∧ t { nx := fun _ H' => Q .non H', rt := Q } (L2.start N vs) H) : FnG P w K mg base (k + 1) f fd ps sp := by
  obtain ⟨oc, od, dV, kV, doc, pm, an, cdv, ct, osl, rfl, lk, hcd, _, _⟩ := Fn.ex
  refine ⟨len, fun A outer s H args us vs Q E hr hG e0 hb r hsp => ?_⟩
  have hl := len _ _ _ _ hsp
  have KX : K.In s.heap := e0.mod.kin.keeps fun b o e => (e0.bs b o e).1
  have lim : s.heap.NoLimit := e0.mod.nolimit.keeps fun b o e => (e0.bs b o e).1
  have hkind : ∀ y ∈ ps.zip us, scope.names.lookup y.1 = some .local ∨ (scope.names.lookup y.1 = some .cell ∧ ((cellsFrom (s.heap.objs.size + 1) scope.names []).lookup y.1).isSome = true) := fun ⟨n, v⟩ hy =>
    (S.par n (List.of_mem_zip hy).1).imp id fun q => ⟨q, PySem.W.cellsFrom_some _ _ _ (.inl q)⟩
  refine codeAny_call_function hr.depth (KX _ _ lk) rfl S.co S.gen rfl (PySem.W.codeRec_of KX hcd) (hb _ _ _ _ ?_)
  refine wpAny_newFunctionEnv_cells S.kind hkind fun env he s1 x => ?_
  subst he
  refine ⟨lim.keeps x.toInCall.keep, codeAny_func ?_⟩
  obtain ⟨t, ht, hq⟩ := hbody cdv A outer s H vs Q E (hr.deeper _) hG hsp
  have I : Inv (cxOf (L2.CX P w) P w K mg base N qual scope f cdv A outer s H E) [] (L2.start N vs) H s1 := inv_start S hr.hd e0 hl r x
  refine wpAny_mono (ht.run [] s1 (L2.start N vs) H _ I hq) (fun fl s' hs => ?_) fun e s' hs => hs
  have fin : ∀ {σ' : L2.St} {H' : Hp} {v : V} {u : Value}, Inv (cxOf (L2.CX P w) P w K mg base N qual scope f cdv A outer s H E) [] σ' H' s' → RelV v u → Q v H' → CE outer P w H s Q u s' := fun {σ' H' v u} J rv q => ⟨v, H', J.os, J.bare, J.base, J.hok, rv, q⟩
  cases fl
  case ret u =>
    obtain ⟨v, σ', H', J, rv, q⟩ := hs
    exact fin J rv q
  case next =>
    obtain ⟨σ', H', J, q⟩ := hs
    exact fin (v := V.non) (u := Value.none) J rfl q
  all_goals
    obtain ⟨_, _, _, q⟩ := hs
    exact False.elim q
/-- the law's call at its entry -/
theorem call_G {P : Program} {w : World} {K : PySem.W.Frag} {mg mb : Str → Option Value} {k : Nat} {fa a : Addr} {fd : FuncData} {x : Str} {sp : Sp} {s₁ : Shared} {vs : List Value} {ns : List Int}
    (KX : K.In s₁.heap) (hns : s₁.heap.Ns mainGlobals mg) (hb : s₁.heap.Ns builtinsNs mb) (hbb : ∀ x : Str, x ≠ "__name__" → mb x = bootBuiltins x) (hlim : s₁.heap.NoLimit) (hg : s₁.gens = #[])
    (ha : s₁.heap.get? a = some { cls := .type "list", data := .seq vs.toArray }) (hi : PyProof.Rows.IntsAre vs ns) (hl : ns.length ≤ sizeLine) (hr : Room k callerA)
    (F : ∀ base : Heap, K.In base → base.Ns mainGlobals mg → FnG P w K mg base k fa fd [x] sp) (hbind : ∀ (s : Shared) (u : Value), BindsTo s fd ⟨[u], []⟩ [(x, u)])
    (hsp : ∀ H : Hp, Only H → SqL K H a (ns.map V.int) → sp [.ref a] H (fun v _ => v = .bl true) fun _ _ _ => False) :
    codeAny (model P w) callerA (.call (.ref fa) ⟨[.ref a], []⟩) (fun r s' => r = .ok (.ret (.bool true)) ∧ OldK s₁.heap s'.heap ∧ s'.os = s₁.os ∧ AllBare s'.gens) s₁ := by
  have rv := vals_ints hi
  have lenV := hi.length
  have core : ∀ H : Hp, Only H → SqL K H a (ns.map V.int) → HOk P w H s₁.heap → (∀ b, H b ≠ none → b = a) → (H a ≠ none → K.lookup a = none) →
      codeAny (model P w) callerA (.call (.ref fa) ⟨[.ref a], []⟩) (fun r s' => r = .ok (.ret (.bool true)) ∧ OldK s₁.heap s'.heap ∧ s'.os = s₁.os ∧ AllBare s'.gens) s₁ := by
    intro H hO hS hok hA hK
    have base_of : ∀ {b : Addr} {o : Obj}, s₁.heap.get? b = some o → H b = none → (hidT s₁.heap H).get? b = some o := fun e n => hidT_get e n
    have isA : ∀ {b : Addr} {u : HO}, H b = some u → b = a := fun {b u} q => hA b (by rw [q]; simp)
    have noA : ∀ {b : Addr} {o : Obj} {es : Array DictEntry} {ep : Nat}, s₁.heap.get? b = some o → o.data = .dict es ep → H b = none := fun {b o es ep} e d => by
      cases q : H b with
      | none => rfl
      | some u =>
        rw [isA q, ha] at e
        cases e
        cases d
    have nsK : ∀ {b : Addr} {m : Str → Option Value}, s₁.heap.Ns b m → (hidT s₁.heap H).Ns b m := fun {b m} ⟨o, es, ep, e, d, r⟩ => ⟨o, es, ep, base_of e (noA e d), d, r⟩
    have hKb : K.In (hidT s₁.heap H) := fun b o e => base_of (KX b o e) (by
      cases q : H b with
      | none => rfl
      | some u =>
        rw [isA q, hK (by rw [← isA q, q]; simp)] at e
        cases e)
    have hM : Mod K mg (hidT s₁.heap H) := ⟨hKb, nsK hns, ⟨mb, nsK hb, hbb⟩, let ⟨mc, h1, h2⟩ := hlim; ⟨mc, nsK h1, h2⟩⟩
    have e0 : Env0 P w K mg (hidT s₁.heap H) callerA [] s₁ H := ⟨rfl, hM, fun b o e => of_hidT e, Nat.le_of_eq (hidT_size _ _), trivial, fun b hb => absurd (show b ∈ ([] : List Addr) from hb) (by simp), hok, .of_eq hg⟩
    refine codeAny_mono ((F _ hKb (nsK hns)).run callerA [] s₁ H ⟨[.ref a], []⟩ [.ref a] [.ref a] _ _ hr rfl e0 (hbind s₁ (.ref a)) (.cons rfl .nil) (hsp H hO hS)) fun r s' h => ?_
    rcases r with e | fl
    · obtain ⟨_, _, _, _, _, _, _, _, _, _, _, _, z⟩ := h
      exact z.elim
    · cases fl
      case ret u =>
        obtain ⟨v, H', os, bare, un, hok', r', rfl⟩ := h
        obtain rfl : u = Value.bool true := r'
        refine ⟨rfl, OldK.of_keep fun b o e => ?_, os, bare⟩
        cases q : H b with
        | none => exact un.keep b o e q (by intro z; exact absurd (show b ∈ ([] : List Addr) from z) (by simp)) (by simp)
        | some u =>
          rcases hO b with z | ⟨ob, xs, z⟩
          · rw [q] at z
            cases z
          · obtain ⟨e1, _⟩ := hok b _ z
            obtain ⟨e2, _⟩ := hok' b _ (un.frzs b ob _ z)
            rw [e] at e1
            cases e1
            exact e2
      all_goals exact False.elim h
  cases hk : K.lookup a with
  | some o =>
    have e := KX a o hk
    rw [ha] at e
    cases e
    exact core (fun _ => none) (fun _ => .inl rfl) (.inr ⟨_, vs.toArray, _, hk, rfl, rfl, rfl, by rw [List.size_toArray, lenV]; exact hl, by simpa using rv⟩) (fun b u z => nomatch (show (none : Option HO) = some u from z)) (fun b z => absurd rfl z) fun z => absurd rfl z
  | none =>
    refine core (fun b => if b = a then some (.frz { cls := .type "list", data := .seq vs.toArray } (.lst (ns.map V.int))) else none) (fun b => ?_) (.inl (.inr ⟨{ cls := .type "list", data := .seq vs.toArray }, if_pos rfl⟩)) (fun b u z => ?_) (fun b z => ?_) fun _ => hk
    · by_cases hb : b = a
      · exact .inr ⟨_, _, if_pos hb⟩
      · exact .inl (if_neg hb)
    · by_cases hb : b = a
      · have z' := (if_pos hb).symm.trans z
        cases z'
        subst hb
        exact ⟨ha, by rw [List.length_map]; exact hl, vs, _, rv, ha⟩
      · exact nomatch (if_neg hb).symm.trans z
    · by_cases hb : b = a
      · exact hb
      · exact absurd (if_neg hb) z
/-- a law's end -/
theorem walk_G {l : PySem.W.OpenLaw} {n k : Nat} {q : Program} {loose : List Str} {XP : (Str → Option Value) → Heap → Prop} {YP : World → Heap → Prop} {d : DefRec} {x : Str}
    (hn : l.most = some n) (hn2 : n ≤ sizeLine) (hdf : d.params.defaults = []) (hr : Room k callerA)
    (F : ∀ (w : World) (mg : Str → Option Value) (fa : Addr) (h : Heap), YP w h → h.Ns mainGlobals mg → mg d.name = some (.ref fa) →
      ∃ (K : PySem.W.Frag) (fd : FuncData) (sp : Sp), K.In h ∧ (∀ (s : Shared) (u : Value), BindsTo s fd ⟨[u], []⟩ [(x, u)]) ∧
        (∀ (H : Hp) (a : Addr) (ns : List Int), ns.length ≤ n → Only H → SqL K H a (ns.map V.int) → sp [.ref a] H (fun v _ => v = .bl true) fun _ _ _ => False) ∧
        ∀ base : Heap, K.In base → base.Ns mainGlobals mg → FnG l.prog w K mg base k fa fd [x] sp) :
    PySem.W.WalkO q loose XP YP l.row.toRowW d [] (fun f vs => PySem.call f vs) :=
  Att.attach_call hn hdf fun w s₀ s₁ mg mb fa o pm cd doc a vs ns G Y ho hd hcd hmg hobj hints hlen hg => by
    obtain ⟨K, fd, sp, KX, hb, hsp, hF⟩ := F w mg fa _ Y G.T.g hmg
    exact call_G KX G.T.g G.T.b G.T.builtins G.T.nolimit hg hobj hints (Nat.le_trans hlen hn2) hr hF hb fun H hO hS => hsp H a ns hlen hO hS
end Dn
end

section
set_option Elab.async false
set_option linter.all false
set_option maxRecDepth 100000
set_option maxHeartbeats 2000000
/-! Dn: a law's text as functions on data. D: data; an environment maps slots to data (frozen) or to an own list or dict; a piece of syntax has a function on environments, and the piece runs as the function says. -/
namespace Dn
open PySem PySem.Spec L2

abbrev Fg := PySem.W.Frag
inductive D where
  | non | bl (b : Bool) | int (i : Int) | str (x : Str)
  | tup (xs : List D) | lst (xs : List D) | dK (kvs : List (Key × D)) | dT (kvs : List (List Key × D))
  | src (ns : List Int)
instance : Inhabited D := ⟨.non⟩

def Sub (F F' : Hp) : Prop := ∀ a o, F a = some o → F' a = some o
theorem Sub.refl {F : Hp} : Sub F F := fun _ _ h => h
theorem Sub.trans {F F1 F2 : Hp} (a : Sub F F1) (b : Sub F1 F2) : Sub F F2 := fun c o h => b c o (a c o h)
theorem Rd.sub {F F' : Hp} {a : Addr} {u : HO} (s : Sub F F') (h : Rd F a u) : Rd F' a u := by
  rcases h with h | ⟨o, h⟩
  · exact .inl (s _ _ h)
  · exact .inr ⟨o, s _ _ h⟩
theorem SqL.sub {K : Fg} {F F' : Hp} {a : Addr} {xs : List V} (s : Sub F F') (h : SqL K F a xs) : SqL K F' a xs := h.imp (Rd.sub s) id
theorem SqT.sub {K : Fg} {F F' : Hp} {a : Addr} {xs : List V} (s : Sub F F') (h : SqT K F a xs) : SqT K F' a xs := h.imp (Rd.sub s) id

mutual
/-- the value v is the data d; what it leans on stands in F, which is never changed -/
inductive Rep (K : Fg) (F : Hp) : D → V → Prop
  | non : Rep K F .non .non
  | bl (b : Bool) : Rep K F (.bl b) (.bl b)
  | int (i : Int) : Rep K F (.int i) (.int i)
  | str (x : Str) : Rep K F (.str x) (.str x)
  | tup {a : Addr} {xs : List V} {ds : List D} : SqT K F a xs → Reps K F ds xs → Rep K F (.tup ds) (.ref a)
  | lst {a : Addr} {xs : List V} {ds : List D} : F a = some (.lst xs) → Reps K F ds xs → Rep K F (.lst ds) (.ref a)
  | src {a : Addr} {ns : List Int} : SqL K F a (ns.map V.int) → Rep K F (.src ns) (.ref a)
  | dK {a : Addr} {vs : List (Key × V)} {kvs : List (Key × D)} : F a = some (.dK vs) → vs.map (·.1) = kvs.map (·.1) → Reps K F (kvs.map (·.2)) (vs.map (·.2)) → Rep K F (.dK kvs) (.ref a)
  | dT {a : Addr} {vs : List (List Key × V)} {kvs : List (List Key × D)} : F a = some (.dT vs) → vs.map (·.1) = kvs.map (·.1) → Reps K F (kvs.map (·.2)) (vs.map (·.2)) → Rep K F (.dT kvs) (.ref a)
inductive Reps (K : Fg) (F : Hp) : List D → List V → Prop
  | nil : Reps K F [] []
  | cons {d : D} {v : V} {ds : List D} {vs : List V} : Rep K F d v → Reps K F ds vs → Reps K F (d :: ds) (v :: vs)
end
section
variable {K : Fg} {F F' : Hp}
mutual
theorem Rep.sub (s : Sub F F') : ∀ {d : D} {v : V}, Rep K F d v → Rep K F' d v
  | _, _, .non => .non
  | _, _, .bl b => .bl b
  | _, _, .int i => .int i
  | _, _, .str x => .str x
  | _, _, .tup h r => .tup (SqT.sub s h) (Reps.sub s r)
  | _, _, .lst h r => .lst (s _ _ h) (Reps.sub s r)
  | _, _, .src h => .src (SqL.sub s h)
  | _, _, .dK h e r => .dK (s _ _ h) e (Reps.sub s r)
  | _, _, .dT h e r => .dT (s _ _ h) e (Reps.sub s r)
theorem Reps.sub (s : Sub F F') : ∀ {ds : List D} {vs : List V}, Reps K F ds vs → Reps K F' ds vs
  | _, _, .nil => .nil
  | _, _, .cons a b => .cons (Rep.sub s a) (Reps.sub s b)
end
theorem Reps.length : ∀ {ds : List D} {vs : List V}, Reps K F ds vs → ds.length = vs.length
  | _, _, .nil => rfl
  | _, _, .cons _ b => congrArg (· + 1) (Reps.length b)
theorem Reps.append : ∀ {ds es : List D} {vs us : List V}, Reps K F ds vs → Reps K F es us → Reps K F (ds ++ es) (vs ++ us)
  | _, _, _, _, .nil, h => h
  | _, _, _, _, .cons a b, h => .cons a (Reps.append b h)
theorem Reps.get : ∀ {ds : List D} {vs : List V} {i : Nat} {d : D}, Reps K F ds vs → ds[i]? = some d → ∃ v, vs[i]? = some v ∧ Rep K F d v
  | _, _, _, _, .nil, h => by simp at h
  | _, _, 0, d, .cons a _, h => by
    have e := Option.some.inj (show some _ = some d from h)
    subst e
    exact ⟨_, rfl, a⟩
  | _, _, i + 1, d, .cons _ b, h => Reps.get (i := i) b (by simpa using h)
theorem Reps.get' : ∀ {ds : List D} {vs : List V} {i : Nat} {v : V}, Reps K F ds vs → vs[i]? = some v → ∃ d, ds[i]? = some d ∧ Rep K F d v
  | _, _, _, _, .nil, h => by simp at h
  | _, _, 0, v, .cons a _, h => by
    have e := Option.some.inj (show some _ = some v from h)
    subst e
    exact ⟨_, rfl, a⟩
  | _, _, i + 1, v, .cons _ b, h => Reps.get' (i := i) b (by simpa using h)
theorem Reps.take : ∀ {ds : List D} {vs : List V} (n : Nat), Reps K F ds vs → Reps K F (ds.take n) (vs.take n)
  | _, _, 0, _ => .nil
  | _, _, _ + 1, .nil => .nil
  | _, _, n + 1, .cons a b => .cons a (Reps.take n b)
theorem Reps.drop : ∀ {ds : List D} {vs : List V} (n : Nat), Reps K F ds vs → Reps K F (ds.drop n) (vs.drop n)
  | _, _, 0, h => h
  | _, _, _ + 1, .nil => .nil
  | _, _, n + 1, .cons _ b => Reps.drop n b
theorem Reps.set {d : D} {v : V} (r : Rep K F d v) : ∀ {ds : List D} {vs : List V} (i : Nat), Reps K F ds vs → Reps K F (ds.set i d) (vs.set i v)
  | _, _, _, .nil => .nil
  | _, _, 0, .cons _ b => .cons r b
  | _, _, i + 1, .cons a b => .cons a (Reps.set r i b)
theorem Reps.eraseIdx : ∀ {ds : List D} {vs : List V} (i : Nat), Reps K F ds vs → Reps K F (ds.eraseIdx i) (vs.eraseIdx i)
  | _, _, _, .nil => .nil
  | _, _, 0, .cons _ b => b
  | _, _, i + 1, .cons a b => .cons a (Reps.eraseIdx i b)
theorem Reps.reverse : ∀ {ds : List D} {vs : List V}, Reps K F ds vs → Reps K F ds.reverse vs.reverse
  | _, _, .nil => .nil
  | _, _, .cons a b => by
    rw [List.reverse_cons, List.reverse_cons]
    exact Reps.append (Reps.reverse b) (.cons a .nil)
theorem Reps.nums : ∀ (ns : List Int), Reps K F (ns.map D.int) (ns.map V.int)
  | [] => .nil
  | n :: r => .cons (.int n) (Reps.nums r)
end

/-- what a slot holds: data; or an own list or dict, of this content -/
inductive S where
  | d (x : D) | o (x : D)
/-- what an expression gives: data; a new own list or dict; what slot i holds -/
inductive R where
  | d (x : D) | o (x : D) | s (i : Nat)
/-- an exception of the text: its class's name, its fields -/
structure Exn where
  cls : Str
  fs : List (Str × D)
inductive Ctl where
  | nx | bk | ct | rt (r : R) | ex (x : Exn)
abbrev Env := List (Option S)
abbrev Dx (α : Type) := Env → Option (Except Exn α × Env)
abbrev DE := Dx R
abbrev DS := Env → Option (Ctl × Env)

def OwnO (K : Fg) (F : Hp) : HO → D → Prop
  | .lst xs, .lst ds => Reps K F ds xs
  | .dK vs, .dK kvs => vs.map (·.1) = kvs.map (·.1) ∧ Reps K F (kvs.map (·.2)) (vs.map (·.2))
  | .dT vs, .dT kvs => vs.map (·.1) = kvs.map (·.1) ∧ Reps K F (kvs.map (·.2)) (vs.map (·.2))
  | _, _ => False
def OwnAt (K : Fg) (F H : Hp) (p : Addr) (x : D) : Prop := ∃ o, H p = some o ∧ OwnO K F o x
theorem OwnO.sub {K : Fg} {F F' : Hp} (s : Sub F F') : ∀ {o : HO} {x : D}, OwnO K F o x → OwnO K F' o x := by
  intro o x h
  cases o with
  | lst xs => cases x with
    | lst ds => exact Reps.sub s h
    | _ => exact h.elim
  | dK vs => cases x with
    | dK kvs => exact ⟨h.1, Reps.sub s h.2⟩
    | _ => exact h.elim
  | dT vs => cases x with
    | dT kvs => exact ⟨h.1, Reps.sub s h.2⟩
    | _ => exact h.elim
  | _ => cases x <;> exact h.elim
theorem OwnO.rep {K : Fg} {F : Hp} {p : Addr} {o : HO} {x : D} (h : OwnO K F o x) (e : F p = some o) : Rep K F x (.ref p) := by
  cases o with
  | lst xs => cases x with
    | lst ds => exact .lst e h
    | _ => exact h.elim
  | dK vs => cases x with
    | dK kvs => exact .dK e h.1 h.2
    | _ => exact h.elim
  | dT vs => cases x with
    | dT kvs => exact .dT e h.1 h.2
    | _ => exact h.elim
  | _ => cases x <;> exact h.elim

/-- what slot i holds -/
def gt : Env → Nat → Option S
  | [], _ => none
  | o :: _, 0 => o
  | _ :: r, i + 1 => gt r i
theorem gt_lt : ∀ {ρ : Env} {i : Nat} {s : S}, gt ρ i = some s → i < ρ.length
  | [], _, _, h => by simp [gt] at h
  | _ :: _, 0, _, _ => Nat.succ_pos _
  | _ :: r, i + 1, s, h => Nat.succ_lt_succ (gt_lt (ρ := r) h)
theorem gt_same : ∀ {ρ : Env} {i : Nat} {s : Option S}, i < ρ.length → gt (ρ.set i s) i = s
  | [], _, _, h => absurd h (Nat.not_lt_zero _)
  | _ :: _, 0, _, _ => rfl
  | _ :: r, i + 1, s, h => gt_same (ρ := r) (Nat.lt_of_succ_lt_succ h)
theorem gt_ne : ∀ {ρ : Env} {i j : Nat} {s : Option S}, j ≠ i → gt (ρ.set i s) j = gt ρ j
  | [], _, _, _, _ => rfl
  | _ :: _, 0, 0, _, h => absurd rfl h
  | _ :: _, 0, j + 1, _, _ => rfl
  | _ :: _, i + 1, 0, _, _ => rfl
  | _ :: r, i + 1, j + 1, s, h => gt_ne (ρ := r) fun z => h (congrArg (· + 1) z)
/-- slot i of ρ is an own one, at p -/
def Ow (ρ : Env) (σ : St) (p : Addr) : Prop := ∃ (i : Nat) (x : D), gt ρ i = some (.o x) ∧ σ[i]? = some (some (V.ref p))
/-- the slots hold what ρ says -/
structure RS (K : Fg) (σ : St) (ρ : Env) (F H : Hp) : Prop where
  sub : Sub F H
  len : ρ.length = σ.length
  dat : ∀ (i : Nat) (x : D), gt ρ i = some (.d x) → ∃ v, σ[i]? = some (some v) ∧ Rep K F x v
  own : ∀ (i : Nat) (x : D), gt ρ i = some (.o x) → ∃ p, σ[i]? = some (some (V.ref p)) ∧ F p = none ∧ OwnAt K F H p x
  inj : ∀ (i j : Nat) (x y : D) (p : Addr), gt ρ i = some (.o x) → gt ρ j = some (.o y) → σ[i]? = some (some (V.ref p)) → σ[j]? = some (some (V.ref p)) → i = j
/-- from (σ, ρ, F, H) to (σ', ρ', F', H'): only what is own is changed, only what is own or new is frozen -/
structure Gr (σ : St) (ρ : Env) (F H : Hp) (σ' : St) (ρ' : Env) (F' H' : Hp) : Prop where
  keep : ∀ a, H a ≠ none → ¬ Ow ρ σ a → H' a = H a
  live : ∀ a, H a ≠ none → H' a ≠ none
  mono : Sub F F'
  nofz : ∀ a, H a ≠ none → ¬ Ow ρ σ a → F a = none → F' a = none
  sub : ∀ a, Ow ρ' σ' a → Ow ρ σ a ∨ H a = none
theorem Gr.refl {σ : St} {ρ : Env} {F H : Hp} : Gr σ ρ F H σ ρ F H := ⟨fun _ _ _ => rfl, fun _ h => h, Sub.refl, fun _ _ _ h => h, fun _ h => .inl h⟩
theorem Gr.trans {σ σ1 σ2 : St} {ρ ρ1 ρ2 : Env} {F F1 F2 H H1 H2 : Hp} (a : Gr σ ρ F H σ1 ρ1 F1 H1) (b : Gr σ1 ρ1 F1 H1 σ2 ρ2 F2 H2) : Gr σ ρ F H σ2 ρ2 F2 H2 := by
  have no : ∀ c, H c ≠ none → ¬ Ow ρ σ c → ¬ Ow ρ1 σ1 c := fun c h n q => (a.sub c q).elim n h
  refine ⟨fun c h n => ?_, fun c h => b.live c (a.live c h), a.mono.trans b.mono, fun c h n f => ?_, fun c q => ?_⟩
  · rw [b.keep c (a.live c h) (no c h n), a.keep c h n]
  · exact b.nofz c (a.live c h) (no c h n) (a.nofz c h n f)
  · rcases b.sub c q with q | q
    · exact a.sub c q
    · refine .inr ?_
      cases e : H c with
      | none => rfl
      | some o => exact absurd q (a.live c (by rw [e]; simp))
theorem RS.ow_some {K : Fg} {σ : St} {ρ : Env} {F H : Hp} (r : RS K σ ρ F H) {p : Addr} (h : Ow ρ σ p) : H p ≠ none ∧ F p = none := by
  obtain ⟨i, x, e1, e2⟩ := h
  obtain ⟨q, e3, f, o, e4, _⟩ := r.own i x e1
  rw [e2] at e3
  cases e3
  exact ⟨by rw [e4]; simp, f⟩

/-- what an expression's result r is in the world behind: v; H0 the heap ahead -/
def RR (K : Fg) (σ : St) (ρ : Env) (F H H0 : Hp) : R → V → Prop
  | .d x, v => Rep K F x v
  | .o x, v => ∃ p, v = .ref p ∧ H0 p = none ∧ ¬ Ow ρ σ p ∧ F p = none ∧ OwnAt K F H p x
  | .s i, v => σ[i]? = some (some v) ∧ ∃ s, gt ρ i = some s
/-- an exception x: of the class cls, its own dict at d -/
def XR (K : Fg) (mg : Str → Option Value) (F : Hp) (x : Exn) (cls : Value) (d : Option Addr) : Prop :=
  ∃ C, mg x.cls = some (.ref C) ∧ cls = .ref C ∧ ((x.fs = [] ∧ d = none) ∨
    ∃ dd vs, d = some dd ∧ F dd = some (.xd vs) ∧ vs.map (·.1) = x.fs.map (·.1) ∧ Reps K F (x.fs.map (·.2)) (vs.map (·.2)))

abbrev MG := Str → Option Value
/-- where an exception is passed on -/
def EX (K : Fg) (mg : MG) (W : WX) (σ : St) (ρ : Env) (F H : Hp) (x : Exn) (ρ' : Env) : Prop :=
  ∀ cls d F' H', RS K σ ρ' F' H' → Gr σ ρ F H σ ρ' F' H' → XR K mg F' x cls d → W cls d σ H'
def EE (K : Fg) (mg : MG) (W : WX) (σ : St) (ρ : Env) (F H : Hp) (r : Except Exn R) (ρ' : Env) (Q : VK) : Prop :=
  match r with
  | .ok a => ∀ v F' H', RS K σ ρ' F' H' → Gr σ ρ F H σ ρ' F' H' → RR K σ ρ' F' H' H a v → Q v H'
  | .error x => EX K mg W σ ρ F H x ρ'
/-- an expression's reading by its function -/
def LE (K : Fg) (mg : MG) (W : WX) (f : DE) : TE := fun σ H Q =>
  ∃ ρ F r ρ', RS K σ ρ F H ∧ f ρ = some (r, ρ') ∧ EE K mg W σ ρ F H r ρ' Q

/-- first f, then k -/
def bE {α β : Type} (f : Dx α) (k : α → Dx β) : Dx β := fun ρ => match f ρ with
  | none => none
  | some (.error x, ρ1) => some (.error x, ρ1)
  | some (.ok a, ρ1) => k a ρ1
def rE {α : Type} (a : α) : Dx α := fun ρ => some (.ok a, ρ)

section
variable {K : Fg} {mg : MG} {W : WX} {σ : St} {ρ ρ1 ρ' : Env} {F F1 H H1 H0 : Hp} {v : V} {f fa fb : DE}
/-- a is evaluated first -/
theorem LE.bind {β : Type} {k : R → Dx β} {r : Except Exn β} {G : VK} (rs : RS K σ ρ F H) (e : bE fa k ρ = some (r, ρ'))
    (herr : ∀ x, r = .error x → EX K mg W σ ρ F H x ρ')
    (hok : ∀ a v ρ1 F1 H1, RS K σ ρ1 F1 H1 → Gr σ ρ F H σ ρ1 F1 H1 → RR K σ ρ1 F1 H1 H a v → k a ρ1 = some (r, ρ') → G v H1) : LE K mg W fa σ H G := by
  unfold bE at e
  cases q : fa ρ with
  | none => rw [q] at e; cases e
  | some z =>
    obtain ⟨ra, ρ1⟩ := z
    rw [q] at e
    cases ra with
    | error x =>
      cases e
      exact ⟨ρ, F, .error x, ρ', rs, q, herr x rfl⟩
    | ok a => exact ⟨ρ, F, .ok a, ρ1, rs, q, fun v F' H' rs' g rr => hok a v ρ1 F' H' rs' g rr e⟩
theorem PE.imp {X : Cx} {e : Expr} {t t' : TE} (h : PE X e t) (i : ∀ σ H Q, t' σ H Q → t σ H Q) : PE X e t' := ⟨fun pins s σ H Q I q => h.run pins s σ H Q I (i σ H Q q)⟩
theorem PT.imp {X : Cx} {e : Expr} {t t' : TT} (h : PT X e t) (i : ∀ σ H Q, t' σ H Q → t σ H Q) : PT X e t' := ⟨fun pins s σ H Q I q => h.run pins s σ H Q I (i σ H Q q)⟩
theorem PA.imp {X : Cx} {e : List Expr} {t t' : TA} (h : PA X e t) (i : ∀ σ H Q, t' σ H Q → t σ H Q) : PA X e t' := ⟨fun pos pins s σ H Q I q => h.run pos pins s σ H Q I (i σ H Q q)⟩
theorem PS.imp {X : Cx} {e : Stmt} {t t' : TS} (h : PS X e t) (i : ∀ D σ H, t' D σ H → t D σ H) : PS X e t' := ⟨fun pins s σ H D I q => h.run pins s σ H D I (i D σ H q)⟩
theorem PSs.imp {X : Cx} {e : List Stmt} {t t' : TS} (h : PSs X e t) (i : ∀ D σ H, t' D σ H → t D σ H) : PSs X e t' := ⟨fun pins s σ H D I q => h.run pins s σ H D I (i D σ H q)⟩
theorem PG.imp {X : Cx} {e : Expr} {t t' : TG} (h : PG X e t) (i : ∀ v σ H Q, t' v σ H Q → t v σ H Q) : PG X e t' := ⟨fun pins s σ H v u Q I r q => h.run pins s σ H v u Q I r (i v σ H Q q)⟩

/-- an own thing is frozen -/
theorem freeze {x : D} {H0 : Hp} {ρ0 : Env} {F0 : Hp} (rs : RS K σ ρ F H) (g : Gr σ ρ0 F0 H0 σ ρ F H) (h : RR K σ ρ F H H0 (.o x) v) :
    ∃ F', RS K σ ρ F' H ∧ Gr σ ρ0 F0 H0 σ ρ F' H ∧ Rep K F' x v ∧ Sub F F' := by
  obtain ⟨p, rfl, hn, hO, hf, o, ho, w⟩ := h
  have s : Sub F (upd F p o) := fun a u e => by rw [upd_ne (fun z => by rw [z, hf] at e; cases e)]; exact e
  refine ⟨upd F p o, ⟨fun a u e => ?_, rs.len, fun i y e => ?_, fun i y e => ?_, rs.inj⟩, ⟨g.keep, g.live, g.mono.trans s, fun a ha hna hfa => ?_, g.sub⟩, OwnO.rep (w.sub s) upd_same, s⟩
  · by_cases q : a = p
    · subst q
      rw [upd_same] at e
      cases e
      exact ho
    · rw [upd_ne q] at e
      exact rs.sub a u e
  · obtain ⟨z, e1, e2⟩ := rs.dat i y e
    exact ⟨z, e1, e2.sub s⟩
  · obtain ⟨q, e1, e2, u, e3, e4⟩ := rs.own i y e
    have ne : q ≠ p := fun z => by subst z; exact hO ⟨i, y, e, e1⟩
    exact ⟨q, e1, by rw [upd_ne ne]; exact e2, u, e3, e4.sub s⟩
  · have ne : a ≠ p := fun z => by subst z; exact ha hn
    rw [upd_ne ne]
    exact g.nofz a ha hna hfa

theorem RR.weak {a : R} (l : ∀ c, H0 c ≠ none → H1 c ≠ none) (h : RR K σ ρ F H H1 a v) : RR K σ ρ F H H0 a v := by
  cases a with
  | d x => exact h
  | s i => exact h
  | o x =>
    obtain ⟨p, e, hn, rest⟩ := h
    refine ⟨p, e, ?_, rest⟩
    cases q : H0 p with
    | none => rfl
    | some u => exact absurd hn (l p (by rw [q]; simp))

/-! ### operands: data, or what a slot holds when it is asked -/
def nrm : R → R
  | .o x => .d x
  | r => r
def RO (K : Fg) (σ : St) (F : Hp) : R → V → Prop
  | .d x, v => Rep K F x v
  | .s i, v => σ[i]? = some (some v)
  | .o _, _ => False
theorem RO.sub {a : R} (s : Sub F F1) (h : RO K σ F a v) : RO K σ F1 a v := by
  cases a with
  | d x => exact Rep.sub s h
  | s i => exact h
  | o x => exact h
def sd : Option S → Option D
  | some (.d x) => some x
  | some (.o x) => some x
  | none => none
def pk (ρ : Env) : R → Option D
  | .d x => some x
  | .o _ => none
  | .s i => sd (gt ρ i)
/-- v is read as x -/
def PK (K : Fg) (F H : Hp) (x : D) (v : V) : Prop := Rep K F x v ∨ ∃ p, v = .ref p ∧ F p = none ∧ OwnAt K F H p x
theorem pk_ok {a : R} {x : D} (rs : RS K σ ρ F H) (ro : RO K σ F a v) (e : pk ρ a = some x) : PK K F H x v := by
  cases a with
  | d y =>
    cases e
    exact .inl ro
  | o y => cases e
  | s i =>
    have e : sd (gt ρ i) = some x := e
    cases q : gt ρ i with
    | none => rw [q] at e; cases e
    | some z =>
      rw [q] at e
      have ro' : σ[i]? = some (some v) := ro
      cases z with
      | d y =>
        cases e
        obtain ⟨w, e1, e2⟩ := rs.dat i _ q
        rw [ro'] at e1
        cases e1
        exact .inl e2
      | o y =>
        cases e
        obtain ⟨p, e1, e2⟩ := rs.own i _ q
        rw [ro'] at e1
        cases e1
        exact .inr ⟨p, rfl, e2⟩
theorem LE.opnd {β : Type} {k : R → Dx β} {r : Except Exn β} {G : VK} (rs : RS K σ ρ F H) (e : bE fa (fun a => k (nrm a)) ρ = some (r, ρ'))
    (herr : ∀ x, r = .error x → EX K mg W σ ρ F H x ρ')
    (hok : ∀ a v ρ1 F1 H1, RS K σ ρ1 F1 H1 → Gr σ ρ F H σ ρ1 F1 H1 → RO K σ F1 a v → k a ρ1 = some (r, ρ') → G v H1) : LE K mg W fa σ H G := by
  refine LE.bind rs e herr fun a v ρ1 F1 H1 rs1 g1 rr e1 => ?_
  cases a with
  | d x => exact hok (.d x) v ρ1 F1 H1 rs1 g1 rr e1
  | s i => exact hok (.s i) v ρ1 F1 H1 rs1 g1 rr.1 e1
  | o x =>
    obtain ⟨F', rs2, g2, rp, _⟩ := freeze rs1 g1 rr
    exact hok (.d x) v ρ1 F' H1 rs2 g2 rp e1

def lft (o : Option R) : Dx R := fun ρ => match o with
  | some r => some (.ok r, ρ)
  | none => none
/-- two operands, then k of what they are -/
def o2 (fa fb : DE) (k : D → D → Option R) : DE := bE fa fun a => bE fb fun b => fun ρ => match pk ρ (nrm a), pk ρ (nrm b) with
  | some x, some y => lft (k x y) ρ
  | _, _ => none
def o1 (fa : DE) (k : D → Option R) : DE := bE fa fun a => fun ρ => match pk ρ (nrm a) with
  | some x => lft (k x) ρ
  | none => none
/-- the end of an operation: res in the world behind -/
abbrev FinR (K : Fg) (σ : St) (ρ : Env) (F H : Hp) (res : R) (Q : VK) : Prop := ∀ w F' H', RS K σ ρ F' H' → Gr σ ρ F H σ ρ F' H' → RR K σ ρ F' H' H res w → Q w H'
theorem lft_some {o : Option R} {r : Except Exn R} (e : lft o ρ = some (r, ρ')) : ∃ res, o = some res ∧ r = .ok res ∧ ρ' = ρ := by
  unfold lft at e
  cases o with
  | none => cases e
  | some a =>
    cases e
    exact ⟨a, rfl, rfl, rfl⟩
theorem LE.one {G : VK} {Q : VK} {k : D → Option R} (h : LE K mg W (o1 fa k) σ H Q)
    (hop : ∀ x res v ρ F H1, RS K σ ρ F H1 → PK K F H1 x v → k x = some res → FinR K σ ρ F H1 res Q → G v H1) : LE K mg W fa σ H G := by
  obtain ⟨ρ, F, r, ρ', rs, e, q⟩ := h
  refine LE.opnd (k := fun a => fun ρ => match pk ρ a with
    | some x => lft (k x) ρ
    | none => none) rs e (fun x hx => by subst hx; exact q) fun a v ρ1 F1 H1 rs1 g1 ro e1 => ?_
  have e2 : (match pk ρ1 a with
    | some x => lft (k x) ρ1
    | none => none) = some (r, ρ') := e1
  cases ea : pk ρ1 a with
  | none => rw [ea] at e2; cases e2
  | some x =>
    rw [ea] at e2
    obtain ⟨res, e3, rfl, rfl⟩ := lft_some e2
    exact hop x res v ρ' F1 H1 rs1 (pk_ok rs1 ro ea) e3 fun w F' H' rs' g' rr => q w F' H' rs' (g1.trans g') (RR.weak g1.live rr)
theorem LE.two {G : V → V → Hp → Prop} {Q : VK} {k : D → D → Option R} (h : LE K mg W (o2 fa fb k) σ H Q)
    (hop : ∀ x y res v u ρ F H1, RS K σ ρ F H1 → PK K F H1 x v → PK K F H1 y u → k x y = some res → FinR K σ ρ F H1 res Q → G v u H1) :
    LE K mg W fa σ H fun v H1 => LE K mg W fb σ H1 fun u H2 => G v u H2 := by
  obtain ⟨ρ, F, r, ρ', rs, e, q⟩ := h
  refine LE.opnd (k := fun a => bE fb fun b => fun ρ => match pk ρ a, pk ρ (nrm b) with
    | some x, some y => lft (k x y) ρ
    | _, _ => none) rs e (fun x hx => by subst hx; exact q) fun a v ρ1 F1 H1 rs1 g1 ro e1 => ?_
  refine LE.opnd (k := fun b => fun ρ => match pk ρ a, pk ρ b with
    | some x, some y => lft (k x y) ρ
    | _, _ => none) rs1 e1 (fun x hx => ?_) fun b u ρ2 F2 H2 rs2 g2 ro2 e2 => ?_
  · subst hx
    intro cls d F' H' rs' g' xr
    exact q cls d F' H' rs' (g1.trans g') xr
  · have e3 : (match pk ρ2 a, pk ρ2 b with
      | some x, some y => lft (k x y) ρ2
      | _, _ => none) = some (r, ρ') := e2
    cases ea : pk ρ2 a with
    | none => rw [ea] at e3; cases e3
    | some x =>
      cases eb : pk ρ2 b with
      | none => rw [ea, eb] at e3; cases e3
      | some y =>
        rw [ea, eb] at e3
        obtain ⟨res, e4, rfl, rfl⟩ := lft_some e3
        exact hop x y res v u ρ' F2 H2 rs2 (pk_ok rs2 (ro.sub g2.mono) ea) (pk_ok rs2 ro2 eb) e4 fun w F' H' rs' g' rr => q w F' H' rs' (g1.trans (g2.trans g')) (RR.weak (g1.trans g2).live rr)

/-! ### lists of operands -/
def eA : List DE → Dx (List R)
  | [] => rE []
  | f :: fs => bE f fun a => bE (eA fs) fun as => rE (nrm a :: as)
inductive ROs (K : Fg) (σ : St) (F : Hp) : List R → List V → Prop
  | nil : ROs K σ F [] []
  | cons {a : R} {v : V} {as : List R} {vs : List V} : RO K σ F a v → ROs K σ F as vs → ROs K σ F (a :: as) (v :: vs)
theorem ROs.sub (s : Sub F F1) : ∀ {as : List R} {vs : List V}, ROs K σ F as vs → ROs K σ F1 as vs
  | _, _, .nil => .nil
  | _, _, .cons a b => .cons (a.sub s) (ROs.sub s b)
def LA (K : Fg) (mg : MG) (W : WX) (fs : List DE) : TA := fun σ H Q => ∃ ρ F r ρ', RS K σ ρ F H ∧ eA fs ρ = some (r, ρ') ∧
  match (r : Except Exn (List R)) with
  | .ok as => ∀ vs F' H', RS K σ ρ' F' H' → Gr σ ρ F H σ ρ' F' H' → ROs K σ F' as vs → Q vs H'
  | .error x => EX K mg W σ ρ F H x ρ'
theorem LA.bind {β : Type} {fs : List DE} {k : List R → Dx β} {r : Except Exn β} {G : List V → Hp → Prop} (rs : RS K σ ρ F H) (e : bE (eA fs) k ρ = some (r, ρ'))
    (herr : ∀ x, r = .error x → EX K mg W σ ρ F H x ρ')
    (hok : ∀ as vs ρ1 F1 H1, RS K σ ρ1 F1 H1 → Gr σ ρ F H σ ρ1 F1 H1 → ROs K σ F1 as vs → k as ρ1 = some (r, ρ') → G vs H1) : LA K mg W fs σ H G := by
  unfold bE at e
  cases q : eA fs ρ with
  | none => rw [q] at e; cases e
  | some z =>
    obtain ⟨ra, ρ1⟩ := z
    rw [q] at e
    cases ra with
    | error x =>
      cases e
      exact ⟨ρ, F, .error x, ρ', rs, q, herr x rfl⟩
    | ok a => exact ⟨ρ, F, .ok a, ρ1, rs, q, fun v F' H' rs' g rr => hok a v ρ1 F' H' rs' g rr e⟩
theorem LA.nil : ∀ {σ : St} {H : Hp} {Q : List V → Hp → Prop}, LA K mg W [] σ H Q → tNil σ H Q := by
  rintro σ H Q ⟨ρ, F, r, ρ', rs, e, q⟩
  cases e
  exact q [] F H rs Gr.refl .nil
theorem LA.cons {fs : List DE} : ∀ {σ : St} {H : Hp} {Q : List V → Hp → Prop}, LA K mg W (f :: fs) σ H Q → tCons (LE K mg W f) (LA K mg W fs) σ H Q := by
  rintro σ H Q ⟨ρ, F, r, ρ', rs, e, q⟩
  refine LE.opnd (k := fun a => bE (eA fs) fun as => rE (a :: as)) rs e (fun x hx => by subst hx; exact q) fun a v ρ1 F1 H1 rs1 g1 ro e1 => ?_
  refine LA.bind rs1 e1 (fun x hx => ?_) fun as vs ρ2 F2 H2 rs2 g2 ro2 e2 => ?_
  · subst hx
    intro cls d F' H' rs' g' xr
    exact q cls d F' H' rs' (g1.trans g') xr
  · cases e2
    exact q (v :: vs) F2 H2 rs2 (g1.trans g2) (.cons (ro.sub g2.mono) ro2)
def pks (ρ : Env) : List R → Option (List D)
  | [] => some []
  | a :: as => match pk ρ a, pks ρ as with
    | some x, some xs => some (x :: xs)
    | _, _ => none
inductive PKs (K : Fg) (F H : Hp) : List D → List V → Prop
  | nil : PKs K F H [] []
  | cons {x : D} {v : V} {xs : List D} {vs : List V} : PK K F H x v → PKs K F H xs vs → PKs K F H (x :: xs) (v :: vs)
theorem pks_ok (rs : RS K σ ρ F H) : ∀ {as : List R} {vs : List V} {xs : List D}, ROs K σ F as vs → pks ρ as = some xs → PKs K F H xs vs
  | _, _, xs, .nil, e => by
    cases e
    exact .nil
  | a :: as, v :: vs, xs, .cons h t, e => by
    unfold pks at e
    cases ea : pk ρ a with
    | none => rw [ea] at e; cases e
    | some x =>
      cases eb : pks ρ as with
      | none => rw [ea, eb] at e; cases e
      | some ys =>
        rw [ea, eb] at e
        cases e
        exact .cons (pk_ok rs h ea) (pks_ok rs t eb)
/-- a built-in's call: operands, then k -/
def oN (fs : List DE) (k : List D → Option R) : DE := bE (eA fs) fun as => fun ρ => match pks ρ as with
  | some xs => lft (k xs) ρ
  | none => none
theorem LA.ops {fs : List DE} {G : List V → Hp → Prop} {Q : VK} {k : List D → Option R} (h : LE K mg W (oN fs k) σ H Q)
    (hop : ∀ xs res vs ρ F H1, RS K σ ρ F H1 → PKs K F H1 xs vs → k xs = some res → FinR K σ ρ F H1 res Q → G vs H1) : LA K mg W fs σ H G := by
  obtain ⟨ρ, F, r, ρ', rs, e, q⟩ := h
  refine LA.bind rs e (fun x hx => by subst hx; exact q) fun as vs ρ1 F1 H1 rs1 g1 ro e1 => ?_
  have e2 : (match pks ρ1 as with
    | some x => lft (k x) ρ1
    | none => none) = some (r, ρ') := e1
  cases ea : pks ρ1 as with
  | none => rw [ea] at e2; cases e2
  | some x =>
    rw [ea] at e2
    obtain ⟨res, e3, rfl, rfl⟩ := lft_some e2
    exact hop x res vs ρ' F1 H1 rs1 (pks_ok rs1 ro ea) e3 fun w F' H' rs' g' rr => q w F' H' rs' (g1.trans g') (RR.weak g1.live rr)
end
end Dn
end

section
set_option Elab.async false
set_option linter.all false
set_option maxRecDepth 100000
set_option maxHeartbeats 2000000
/-! Dn: expressions. -/
namespace Dn
open PySem PySem.Spec L2
section
variable {K : Fg} {mg : MG} {W : WX} {σ : St} {ρ ρ1 ρ' : Env} {F F1 H H1 H0 : Hp} {v u : V} {f fa fb fc : DE} {x y : D}

/-! ### what is read as data, by its make -/
theorem PK.non (h : PK K F H .non v) : v = .non := by
  rcases h with h | ⟨p, _, _, o, _, w⟩
  · cases h; rfl
  · cases o <;> exact w.elim
theorem PK.bl {b : Bool} (h : PK K F H (.bl b) v) : v = .bl b := by
  rcases h with h | ⟨p, _, _, o, _, w⟩
  · cases h; rfl
  · cases o <;> exact w.elim
theorem PK.int {i : Int} (h : PK K F H (.int i) v) : v = .int i := by
  rcases h with h | ⟨p, _, _, o, _, w⟩
  · cases h; rfl
  · cases o <;> exact w.elim
theorem PK.str {z : Str} (h : PK K F H (.str z) v) : v = .str z := by
  rcases h with h | ⟨p, _, _, o, _, w⟩
  · cases h; rfl
  · cases o <;> exact w.elim
theorem PK.tup {ds : List D} (s : Sub F H) (h : PK K F H (.tup ds) v) : ∃ a xs, v = .ref a ∧ SqT K H a xs ∧ Reps K F ds xs := by
  rcases h with h | ⟨p, _, _, o, _, w⟩
  · cases h with
    | tup a b => exact ⟨_, _, rfl, SqT.sub s a, b⟩
  · cases o <;> exact w.elim
theorem PK.lst {ds : List D} (s : Sub F H) (h : PK K F H (.lst ds) v) : ∃ a xs, v = .ref a ∧ H a = some (.lst xs) ∧ Reps K F ds xs := by
  rcases h with h | ⟨p, rfl, _, o, ho, w⟩
  · cases h with
    | lst a b => exact ⟨_, _, rfl, s _ _ a, b⟩
  · cases o with
    | lst xs => exact ⟨p, xs, rfl, ho, w⟩
    | _ => exact w.elim
theorem PK.src {ns : List Int} (s : Sub F H) (h : PK K F H (.src ns) v) : ∃ a, v = .ref a ∧ SqL K H a (ns.map V.int) := by
  rcases h with h | ⟨p, _, _, o, _, w⟩
  · cases h with
    | src a => exact ⟨_, rfl, SqL.sub s a⟩
  · cases o <;> exact w.elim

/-! ### new things -/
/-- a new thing that is frozen at once -/
theorem newF {p : Addr} {o : HO} (rs : RS K σ ρ F H) (hp : H p = none) : RS K σ ρ (upd F p o) (upd H p o) ∧ Gr σ ρ F H σ ρ (upd F p o) (upd H p o) ∧ Sub F (upd F p o) := by
  have hf : F p = none := by
    cases e : F p with
    | none => rfl
    | some z => rw [rs.sub _ _ e] at hp; cases hp
  have s : Sub F (upd F p o) := fun a u e => by rw [upd_ne (fun z => by rw [z, hf] at e; cases e)]; exact e
  have ne : ∀ a, H a ≠ none → a ≠ p := fun a h z => by subst z; exact h hp
  refine ⟨⟨fun a u e => ?_, rs.len, fun i z e => ?_, fun i z e => ?_, rs.inj⟩, ⟨fun a h _ => upd_ne (ne a h), fun a h => by rw [upd_ne (ne a h)]; exact h, s, fun a h _ e => by rw [upd_ne (ne a h)]; exact e, fun a h => .inl h⟩, s⟩
  · by_cases q : a = p
    · subst q
      rw [upd_same] at e ⊢
      exact e
    · rw [upd_ne q] at e ⊢
      exact rs.sub a u e
  · obtain ⟨w, e1, e2⟩ := rs.dat i z e
    exact ⟨w, e1, e2.sub s⟩
  · obtain ⟨q, e1, e2, w, e3, e4⟩ := rs.own i z e
    have nq : q ≠ p := fun z => by subst z; rw [hp] at e3; cases e3
    exact ⟨q, e1, by rw [upd_ne nq]; exact e2, w, by rw [upd_ne nq]; exact e3, e4.sub s⟩
/-- a new thing that is own -/
theorem newO {p : Addr} {o : HO} (rs : RS K σ ρ F H) (hp : H p = none) (w : OwnO K F o x) :
    RS K σ ρ F (upd H p o) ∧ Gr σ ρ F H σ ρ F (upd H p o) ∧ RR K σ ρ F (upd H p o) H (.o x) (.ref p) := by
  have hf : F p = none := by
    cases e : F p with
    | none => rfl
    | some z => rw [rs.sub _ _ e] at hp; cases hp
  have ne : ∀ a, H a ≠ none → a ≠ p := fun a h z => by subst z; exact h hp
  refine ⟨⟨fun a u e => ?_, rs.len, rs.dat, fun i z e => ?_, rs.inj⟩, ⟨fun a h _ => upd_ne (ne a h), fun a h => by rw [upd_ne (ne a h)]; exact h, Sub.refl, fun a h _ e => e, fun a h => .inl h⟩, ?_⟩
  · have q : a ≠ p := fun z => by rw [z, hf] at e; cases e
    rw [upd_ne q]
    exact rs.sub a u e
  · obtain ⟨q, e1, e2, w, e3, e4⟩ := rs.own i z e
    have nq : q ≠ p := fun z => by subst z; rw [hp] at e3; cases e3
    exact ⟨q, e1, e2, w, by rw [upd_ne nq]; exact e3, e4⟩
  · exact ⟨p, rfl, hp, fun q => (rs.ow_some q).1 hp, hf, o, upd_same, w⟩
/-- an end without a change -/
theorem FinR.same {res : R} {Q : VK} (h : FinR K σ ρ F H res Q) (rs : RS K σ ρ F H) (r : RR K σ ρ F H H res v) : Q v H := h v F H rs Gr.refl r
theorem FinR.dat {Q : VK} (h : FinR K σ ρ F H (.d x) Q) (rs : RS K σ ρ F H) (r : Rep K F x v) : Q v H := h v F H rs Gr.refl r
theorem FinR.tup {ds : List D} {xs : List V} {Q : VK} (h : FinR K σ ρ F H (.d (.tup ds)) Q) (rs : RS K σ ρ F H) (r : Reps K F ds xs) : ∀ p, H p = none → Q (.ref p) (upd H p (.tup xs)) := fun p hp => by
  obtain ⟨a, b, c⟩ := newF (o := .tup xs) rs hp
  exact h _ _ _ a b (.tup (SqT.of upd_same) (r.sub c))
theorem FinR.lst {ds : List D} {xs : List V} {Q : VK} (h : FinR K σ ρ F H (.o (.lst ds)) Q) (rs : RS K σ ρ F H) (r : Reps K F ds xs) : ∀ p, H p = none → Q (.ref p) (upd H p (.lst xs)) := fun p hp => by
  obtain ⟨a, b, c⟩ := newO (x := .lst ds) (o := .lst xs) rs hp r
  exact h _ _ _ a b c

/-! ### names, constants -/
def xVar (i : Nat) : DE := fun ρ => match gt ρ i with
  | some (.d x) => some (.ok (.d x), ρ)
  | some (.o _) => some (.ok (.s i), ρ)
  | none => none
theorem LE.var {i : Nat} : ∀ {σ : St} {H : Hp} {Q : VK}, LE K mg W (xVar i) σ H Q → tVar i σ H Q := by
  rintro σ H Q ⟨ρ, F, r, ρ', rs, e, q⟩
  unfold xVar at e
  cases g : gt ρ i with
  | none => rw [g] at e; cases e
  | some s =>
    rw [g] at e
    cases s with
    | d x =>
      cases e
      obtain ⟨v, e1, e2⟩ := rs.dat i x g
      exact ⟨v, e1, q v F H rs Gr.refl e2⟩
    | o x =>
      cases e
      obtain ⟨p, e1, _⟩ := rs.own i x g
      exact ⟨_, e1, q _ F H rs Gr.refl ⟨e1, _, g⟩⟩
def xC (x : D) : DE := fun ρ => some (.ok (.d x), ρ)
theorem LE.con (hx : ∀ F, Rep K F x v) : ∀ {σ : St} {H : Hp} {Q : VK}, LE K mg W (xC x) σ H Q → tC v σ H Q := by
  rintro σ H Q ⟨ρ, F, r, ρ', rs, e, q⟩
  cases e
  exact q v F H rs Gr.refl (hx F)

/-! ### displays -/
/-- what slot j holds becomes data -/
def frzS (ρ : Env) (j : Nat) : Option (D × Env) := match gt ρ j with
  | some (.d x) => some (x, ρ)
  | some (.o x) => some (x, ρ.set j (some (.d x)))
  | none => none
/-- as data -/
def toD (ρ : Env) : R → Option (D × Env)
  | .d x => some (x, ρ)
  | .o x => some (x, ρ)
  | .s j => frzS ρ j
def toDs (ρ : Env) : List R → Option (List D × Env)
  | [] => some ([], ρ)
  | a :: as => match toD ρ a with
    | some (x, ρ1) => (match toDs ρ1 as with
      | some (xs, ρ2) => some (x :: xs, ρ2)
      | none => none)
    | none => none
theorem frzS_ok {j : Nat} (rs : RS K σ ρ F H) (hv : σ[j]? = some (some v)) (e : frzS ρ j = some (x, ρ')) :
    ∃ F', RS K σ ρ' F' H ∧ Gr σ ρ F H σ ρ' F' H ∧ Rep K F' x v := by
  unfold frzS at e
  cases g : gt ρ j with
  | none => rw [g] at e; cases e
  | some s =>
    rw [g] at e
    cases s with
    | d z =>
      cases e
      obtain ⟨w, e1, e2⟩ := rs.dat j _ g
      rw [hv] at e1
      cases e1
      exact ⟨F, rs, Gr.refl, e2⟩
    | o z =>
      cases e
      obtain ⟨p, e1, e2, o, e3, e4⟩ := rs.own j _ g
      rw [hv] at e1
      cases e1
      have s : Sub F (upd F p o) := fun a u e => by rw [upd_ne (fun z => by rw [z, e2] at e; cases e)]; exact e
      have own' : ∀ (i : Nat) (y : D), gt (ρ.set j (some (.d x))) i = some (.o y) → i ≠ j ∧ gt ρ i = some (.o y) := fun i y h => by
        by_cases q : i = j
        · subst q
          rw [gt_same (gt_lt g)] at h
          cases h
        · rw [gt_ne q] at h
          exact ⟨q, h⟩
      refine ⟨upd F p o, ⟨fun a u e => ?_, by rw [List.length_set]; exact rs.len, fun i y e => ?_, fun i y e => ?_, fun i k y z q h1 h2 h3 h4 => ?_⟩, ⟨fun _ _ _ => rfl, fun _ h => h, s, fun a h n e => ?_, fun a h => ?_⟩, OwnO.rep (e4.sub s) upd_same⟩
      · by_cases q : a = p
        · subst q
          rw [upd_same] at e
          cases e
          exact e3
        · rw [upd_ne q] at e
          exact rs.sub a u e
      · by_cases q : i = j
        · subst q
          rw [gt_same (gt_lt g)] at e
          cases e
          exact ⟨_, hv, OwnO.rep (e4.sub s) upd_same⟩
        · rw [gt_ne q] at e
          obtain ⟨w, q1, q2⟩ := rs.dat i y e
          exact ⟨w, q1, q2.sub s⟩
      · obtain ⟨ne, h⟩ := own' i y e
        obtain ⟨q, q1, q2, w, q3, q4⟩ := rs.own i y h
        have nq : q ≠ p := fun z => by subst z; exact ne (rs.inj i j _ _ q h g q1 hv)
        exact ⟨q, q1, by rw [upd_ne nq]; exact q2, w, q3, q4.sub s⟩
      · exact rs.inj i k y z q (own' i y h1).2 (own' k z h2).2 h3 h4
      · have nq : a ≠ p := fun z => by subst z; exact n ⟨j, _, g, hv⟩
        rw [upd_ne nq]
        exact e
      · obtain ⟨i, y, h1, h2⟩ := h
        exact .inl ⟨i, y, (own' i y h1).2, h2⟩
theorem toD_ok {a : R} (rs : RS K σ ρ F H) (h : RO K σ F a v) (e : toD ρ a = some (x, ρ')) : ∃ F', RS K σ ρ' F' H ∧ Gr σ ρ F H σ ρ' F' H ∧ Rep K F' x v := by
  cases a with
  | d y =>
    cases e
    exact ⟨F, rs, Gr.refl, h⟩
  | o y => exact h.elim
  | s j => exact frzS_ok rs h e
theorem toDs_ok : ∀ {as : List R} {vs : List V} {xs : List D} {ρ ρ' : Env} {F : Hp}, RS K σ ρ F H → ROs K σ F as vs → toDs ρ as = some (xs, ρ') →
    ∃ F', RS K σ ρ' F' H ∧ Gr σ ρ F H σ ρ' F' H ∧ Reps K F' xs vs
  | _, _, xs, ρ, ρ', F, rs, .nil, e => by
    cases e
    exact ⟨F, rs, Gr.refl, .nil⟩
  | a :: as, v :: vs, xs, ρ, ρ', F, rs, .cons h t, e => by
    unfold toDs at e
    cases ea : toD ρ a with
    | none => rw [ea] at e; cases e
    | some z =>
      obtain ⟨x, ρ1⟩ := z
      rw [ea] at e
      have e : (match toDs ρ1 as with
        | some (xs, ρ2) => some (x :: xs, ρ2)
        | none => none) = some (xs, ρ') := e
      obtain ⟨F1, rs1, g1, r1⟩ := toD_ok rs h ea
      cases eb : toDs ρ1 as with
      | none => rw [eb] at e; cases e
      | some z =>
        obtain ⟨ys, ρ2⟩ := z
        rw [eb] at e
        cases e
        obtain ⟨F2, rs2, g2, r2⟩ := toDs_ok rs1 (ROs.sub g1.mono t) eb
        exact ⟨F2, rs2, g1.trans g2, .cons (r1.sub g2.mono) r2⟩
theorem toDs_len : ∀ {as : List R} {xs : List D} {ρ ρ' : Env}, toDs ρ as = some (xs, ρ') → xs.length = as.length
  | [], xs, ρ, ρ', e => by cases e; rfl
  | a :: as, xs, ρ, ρ', e => by
    unfold toDs at e
    cases ea : toD ρ a with
    | none => rw [ea] at e; cases e
    | some z =>
      obtain ⟨x, ρ1⟩ := z
      rw [ea] at e
      have e : (match toDs ρ1 as with
        | some (xs, ρ2) => some (x :: xs, ρ2)
        | none => none) = some (xs, ρ') := e
      cases eb : toDs ρ1 as with
      | none => rw [eb] at e; cases e
      | some z =>
        rw [eb] at e
        cases e
        exact congrArg (· + 1) (toDs_len eb)
theorem eA_len : ∀ {fs : List DE} {as : List R} {ρ ρ' : Env}, eA fs ρ = some (.ok as, ρ') → as.length = fs.length
  | [], as, ρ, ρ', e => by cases e; rfl
  | f :: fs, as, ρ, ρ', e => by
    unfold eA bE at e
    cases ef : f ρ with
    | none => rw [ef] at e; cases e
    | some z =>
      obtain ⟨r, ρ1⟩ := z
      rw [ef] at e
      cases r with
      | error x => cases e
      | ok a =>
        have e : bE (eA fs) (fun as => rE (nrm a :: as)) ρ1 = some (.ok as, ρ') := e
        unfold bE at e
        cases eb : eA fs ρ1 with
        | none => rw [eb] at e; cases e
        | some z =>
          obtain ⟨r2, ρ2⟩ := z
          rw [eb] at e
          cases r2 with
          | error x => cases e
          | ok bs =>
            cases e
            exact congrArg (· + 1) (eA_len eb)
/-- operands as data, then k -/
def dN (fs : List DE) (k : List D → Option R) : DE := bE (eA fs) fun as => fun ρ => match toDs ρ as with
  | some (xs, ρ1) => lft (k xs) ρ1
  | none => none
theorem LA.dats {fs : List DE} {G : List V → Hp → Prop} {Q : VK} {k : List D → Option R} (h : LE K mg W (dN fs k) σ H Q)
    (hop : ∀ xs res vs ρ F H1, RS K σ ρ F H1 → Reps K F xs vs → vs.length = fs.length → k xs = some res → FinR K σ ρ F H1 res Q → G vs H1) : LA K mg W fs σ H G := by
  obtain ⟨ρ, F, r, ρ', rs, e, q⟩ := h
  have hl : ∀ as ρ1, eA fs ρ = some (.ok as, ρ1) → as.length = fs.length := fun as ρ1 e => eA_len e
  unfold dN bE at e
  cases ef : eA fs ρ with
  | none => rw [ef] at e; cases e
  | some z =>
    obtain ⟨ra, ρ1⟩ := z
    rw [ef] at e
    cases ra with
    | error x =>
      cases e
      exact ⟨ρ, F, .error x, _, rs, ef, q⟩
    | ok as =>
      refine ⟨ρ, F, .ok as, ρ1, rs, ef, fun vs F1 H1 rs1 g1 ro => ?_⟩
      have e2 : (match toDs ρ1 as with
        | some (x, ρ2) => lft (k x) ρ2
        | none => none) = some (r, ρ') := e
      cases ea : toDs ρ1 as with
      | none => rw [ea] at e2; cases e2
      | some z =>
        obtain ⟨xs, ρ2⟩ := z
        rw [ea] at e2
        obtain ⟨res, e3, rfl, rfl⟩ := lft_some e2
        obtain ⟨F2, rs2, g2, r2⟩ := toDs_ok rs1 ro ea
        refine hop xs res vs _ F2 H1 rs2 r2 ?_ e3 fun w F' H' rs' g' rr => q w F' H' rs' (g1.trans (g2.trans g')) (RR.weak g1.live rr)
        rw [← r2.length, toDs_len ea, hl as ρ1 ef]
def xTup (fs : List DE) : DE := dN fs fun xs => some (.d (.tup xs))
def xLst (fs : List DE) : DE := dN fs fun xs => some (.o (.lst xs))
theorem LE.tup {fs : List DE} (hz : fs.length ≤ sizeLine) : ∀ {σ : St} {H : Hp} {Q : VK}, LE K mg W (xTup fs) σ H Q → tTup (LA K mg W fs) σ H Q := fun h =>
  LA.dats h fun xs res vs ρ F H1 rs r hl e q => by
    cases e
    exact ⟨by rw [hl]; exact hz, FinR.tup q rs r⟩
theorem LE.lst {fs : List DE} (hz : fs.length ≤ sizeLine) : ∀ {σ : St} {H : Hp} {Q : VK}, LE K mg W (xLst fs) σ H Q → tLst (LA K mg W fs) σ H Q := fun h =>
  LA.dats h fun xs res vs ρ F H1 rs r hl e q => by
    cases e
    exact ⟨by rw [hl]; exact hz, FinR.lst q rs r⟩
end
end Dn
end

section
set_option Elab.async false
set_option linter.all false
set_option maxRecDepth 100000
set_option maxHeartbeats 2000000
/-! Dn: operators, comparisons, tests, calls. -/
namespace Dn
open PySem PySem.Spec L2
/-! ### data as the library's data -/
mutual
def toPy : D → PyData
  | .non => .none
  | .bl b => .bool b
  | .int i => .int i
  | .str x => .str x
  | .tup xs => .tuple (toPys xs)
  | .lst xs => .list (toPys xs)
  | .dK _ => .none
  | .dT _ => .none
  | .src ns => .list (ns.map .int)
def toPys : List D → List PyData
  | [] => []
  | x :: xs => toPy x :: toPys xs
end
mutual
def isPy : D → Bool
  | .tup xs => isPys xs
  | .lst xs => isPys xs
  | .dK _ => false
  | .dT _ => false
  | _ => true
def isPys : List D → Bool
  | [] => true
  | x :: xs => isPy x && isPys xs
end
section
variable {K : Fg} {mg : MG} {W : WX} {σ : St} {ρ ρ1 ρ' : Env} {F F1 H H1 H0 : Hp} {v u : V} {f fa fb fc : DE} {x y : D}
theorem dpInts (ns : List Int) : DpAll K H (ns.map V.int) (ns.map PyData.int) := by
  induction ns with
  | nil => exact .nil
  | cons n r ih => exact .cons (.int n) ih
mutual
theorem Rep.dp (s : Sub F H) : ∀ {x : D} {v : V}, Rep K F x v → isPy x = true → Dp K H v (toPy x)
  | _, _, .non, _ => .non
  | _, _, .bl b, _ => .bl b
  | _, _, .int i, _ => .int i
  | _, _, .str z, _ => .str z
  | _, _, .tup a b, h => .tup (SqT.sub s a) (Reps.dp s b h)
  | _, _, .lst a b, h => .lst (SqL.of (s _ _ a)) (Reps.dp s b h)
  | _, _, .src a, _ => .lst (SqL.sub s a) (dpInts _)
  | _, _, .dK _ _ _, h => by cases h
  | _, _, .dT _ _ _, h => by cases h
theorem Reps.dp (s : Sub F H) : ∀ {xs : List D} {vs : List V}, Reps K F xs vs → isPys xs = true → DpAll K H vs (toPys xs)
  | _, _, .nil, _ => .nil
  | _, _, .cons a b, h => by
    have h2 : (isPy _ && isPys _) = true := h
    rw [Bool.and_eq_true] at h2
    exact .cons (Rep.dp s a h2.1) (Reps.dp s b h2.2)
end
theorem PK.dp (s : Sub F H) (h : PK K F H x v) (hp : isPy x = true) : Dp K H v (toPy x) := by
  rcases h with h | ⟨p, rfl, _, o, ho, w⟩
  · exact h.dp s hp
  · cases o with
    | lst xs => cases x with
      | lst ds => exact .lst (SqL.of ho) (Reps.dp s w hp)
      | _ => exact w.elim
    | dK vs => cases x with
      | dK ds => cases hp
      | _ => exact w.elim
    | dT vs => cases x with
      | dT ds => cases hp
      | _ => exact w.elim
    | _ => cases x <;> exact w.elim
theorem PK.tupR {ds : List D} (h : PK K F H (.tup ds) v) : Rep K F (.tup ds) v := by
  rcases h with h | ⟨p, _, _, o, _, w⟩
  · exact h
  · cases o <;> exact w.elim

/-! ### operators -/
def kAdd : D → D → Option R
  | .int i, .int j => some (.d (.int (i + j)))
  | .str a, .str b => if a.length + b.length ≤ sizeLine then some (.d (.str (a ++ b))) else none
  | .lst xs, .lst ys => if xs.length + ys.length ≤ sizeLine then some (.o (.lst (xs ++ ys))) else none
  | .tup xs, .tup ys => if xs.length + ys.length ≤ sizeLine then some (.d (.tup (xs ++ ys))) else none
  | _, _ => none
def rAdd4 (K : Fg) : R2 := fun x y H Q => rI0 (fun i j => .int (i + j)) x y H Q ∨ (∃ i j, x = .str i ∧ y = .str j ∧ i.length + j.length ≤ sizeLine ∧ Q (.str (i ++ j)) H) ∨ rCat x y H Q ∨ rCatA K x y H Q
theorem op_add4 {X : Cx} : OpR X (binaryOp .Add) (rAdd4 X.K) := OpR.or op_add (OpR.or op_add_str (OpR.or op_cat op_catA))
theorem hAdd : ∀ x y res v u ρ F H, RS K σ ρ F H → PK K F H x v → PK K F H y u → kAdd x y = some res → ∀ Q, FinR K σ ρ F H res Q → rAdd4 K v u H Q := by
  intro x y res v u ρ F H rs hx hy e Q q
  unfold kAdd at e
  split at e
  · cases e
    cases hx.int
    cases hy.int
    exact .inl ⟨_, _, rfl, rfl, q.dat rs (.int _)⟩
  · split at e
    · cases e
      cases hx.str
      cases hy.str
      exact .inr (.inl ⟨_, _, rfl, rfl, by assumption, q.dat rs (.str _)⟩)
    · cases e
  · split at e
    · cases e
      obtain ⟨a, xs, rfl, ha, ra⟩ := hx.lst rs.sub
      obtain ⟨b, ys, rfl, hb, rb⟩ := hy.lst rs.sub
      exact .inr (.inr (.inl ⟨a, b, xs, ys, rfl, rfl, ha, hb, by rw [← ra.length, ← rb.length]; assumption, FinR.lst q rs (ra.append rb)⟩))
    · cases e
  · split at e
    · cases e
      have hx' := hx.tupR
      have hy' := hy.tupR
      obtain ⟨a, xs, rfl, ha, ra⟩ := hx.tup rs.sub
      obtain ⟨b, ys, rfl, hb, rb⟩ := hy.tup rs.sub
      refine .inr (.inr (.inr ⟨a, b, xs, ys, rfl, rfl, ha, hb, by rw [← ra.length, ← rb.length]; assumption, fun z => ?_, fun _ z => ?_, fun _ _ => FinR.tup q rs (ra.append rb)⟩))
      · subst z
        cases ra
        exact q.dat rs hy'
      · subst z
        cases rb
        rw [List.append_nil] at q
        exact q.dat rs hx'
    · cases e
  · cases e
theorem pe_add4 {X : Cx} {a b : Expr} {pos : Pos} (ha : PE X a (LE X.K X.mg W fa)) (hb : PE X b (LE X.K X.mg W fb)) : PE X (.BinOp a .Add b pos) (LE X.K X.mg W (o2 fa fb kAdd)) :=
  PE.imp (pe_op op_add4 ha hb) fun _ _ _ h => LE.two h fun x y res v u ρ F H rs hx hy e q => hAdd x y res v u ρ F H rs hx hy e _ q
def kSub : D → D → Option R
  | .int i, .int j => some (.d (.int (i - j)))
  | _, _ => none
theorem pe_subD {X : Cx} {a b : Expr} {pos : Pos} (ha : PE X a (LE X.K X.mg W fa)) (hb : PE X b (LE X.K X.mg W fb)) : PE X (.BinOp a .Sub b pos) (LE X.K X.mg W (o2 fa fb kSub)) :=
  PE.imp (pe_op op_sub ha hb) fun _ _ _ h => LE.two h fun x y res v u ρ F H rs hx hy e q => by
    unfold kSub at e
    split at e
    · cases e
      cases hx.int
      cases hy.int
      exact ⟨_, _, rfl, rfl, q.dat rs (.int _)⟩
    · cases e
def kMod : D → D → Option R
  | .int i, .int j => if 0 < j then some (.d (.int (i % j))) else none
  | _, _ => none
theorem pe_modD {X : Cx} {a b : Expr} {pos : Pos} (ha : PE X a (LE X.K X.mg W fa)) (hb : PE X b (LE X.K X.mg W fb)) : PE X (.BinOp a .Mod b pos) (LE X.K X.mg W (o2 fa fb kMod)) :=
  PE.imp (pe_op op_mod ha hb) fun _ _ _ h => LE.two h fun x y res v u ρ F H rs hx hy e q => by
    unfold kMod at e
    split at e
    · split at e
      · cases e
        cases hx.int
        cases hy.int
        exact ⟨_, _, rfl, rfl, by assumption, q.dat rs (.int _)⟩
      · cases e
    · cases e
def kDiv : D → D → Option R
  | .int i, .int j => if 0 < j ∧ j < 1073741824 then some (.d (.int (i / j))) else none
  | _, _ => none
theorem pe_divD {X : Cx} {a b : Expr} {pos : Pos} (ha : PE X a (LE X.K X.mg W fa)) (hb : PE X b (LE X.K X.mg W fb)) : PE X (.BinOp a .FloorDiv b pos) (LE X.K X.mg W (o2 fa fb kDiv)) :=
  PE.imp (pe_op op_fdiv ha hb) fun _ _ _ h => LE.two h fun x y res v u ρ F H rs hx hy e q => by
    unfold kDiv at e
    split at e
    · split at e
      · cases e
        cases hx.int
        cases hy.int
        exact ⟨_, _, rfl, rfl, by assumption, q.dat rs (.int _)⟩
      · cases e
    · cases e
def kPow : D → D → Option R
  | .int i, .int j => if 0 ≤ j ∧ j ≤ 1000000 ∧ i.natAbs < 18446744073709551616 then some (.d (.int (i ^ j.toNat))) else none
  | _, _ => none
theorem pe_powD {X : Cx} {a b : Expr} {pos : Pos} (ha : PE X a (LE X.K X.mg W fa)) (hb : PE X b (LE X.K X.mg W fb)) : PE X (.BinOp a .Pow b pos) (LE X.K X.mg W (o2 fa fb kPow)) :=
  PE.imp (pe_op op_pow ha hb) fun _ _ _ h => LE.two h fun x y res v u ρ F H rs hx hy e q => by
    unfold kPow at e
    split at e
    · split at e
      · rename_i hc
        cases e
        cases hx.int
        cases hy.int
        exact ⟨_, _, rfl, rfl, ⟨hc.1, hc.2.1, by have := hc.2.2; omega⟩, q.dat rs (.int _)⟩
      · cases e
    · cases e

/-! ### comparisons -/
def kCmp (p : Int → Int → Bool) : D → D → Option R
  | .int i, .int j => some (.d (.bl (p i j)))
  | _, _ => none
theorem hCmp {p : Int → Int → Bool} : ∀ x y res v u ρ F H, RS K σ ρ F H → PK K F H x v → PK K F H y u → kCmp p x y = some res → ∀ Q, FinR K σ ρ F H res Q → rI0 (fun i j => .bl (p i j)) v u H Q := by
  intro x y res v u ρ F H rs hx hy e Q q
  unfold kCmp at e
  split at e
  · cases e
    cases hx.int
    cases hy.int
    exact ⟨_, _, rfl, rfl, q.dat rs (.bl _)⟩
  · cases e
abbrev kLt := kCmp fun i j => decide (i < j)
abbrev kLe := kCmp fun i j => decide (i ≤ j)
abbrev kGt := kCmp fun i j => decide (j < i)
abbrev kGe := kCmp fun i j => decide (j ≤ i)
def eqD (x y : D) : Option Bool := if isPy x = true ∧ isPy y = true ∧ SeqAt.shaped (toPy x) = true ∧ SeqAt.shaped (toPy y) = true then some (PyData.eqv (toPy x) (toPy y)) else none
def eqS : D → D → Option Bool
  | .str a, .str b => some (decide (a = b))
  | .int a, .int b => some (decide (a = b))
  | x, y => eqD x y
def kEq (x y : D) : Option R := (eqS x y).map fun b => .d (.bl b)
def kNe (x y : D) : Option R := (eqS x y).map fun b => .d (.bl !b)
def rEq2 (K : Fg) : R2 := fun x y H Q => rEq x y H Q ∨ rEqD K x y H Q
def rNe2 (K : Fg) : R2 := fun x y H Q => rNe x y H Q ∨ rNeD K x y H Q
theorem dec_str {i j : Str} : decide (V.str i = V.str j) = decide (i = j) := by
  rw [Bool.eq_iff_iff]
  simp
theorem dec_int' {i j : Int} : decide (V.int i = V.int j) = decide (i = j) := by
  rw [Bool.eq_iff_iff]
  simp
theorem hEq : ∀ x y res v u ρ F H, RS K σ ρ F H → PK K F H x v → PK K F H y u → kEq x y = some res → ∀ Q, FinR K σ ρ F H res Q → rEq2 K v u H Q := by
  intro x y res v u ρ F H rs hx hy e Q q
  unfold kEq eqS at e
  split at e
  · cases e
    cases hx.str
    cases hy.str
    refine .inl ⟨rfl, ?_⟩
    rw [dec_str]
    exact q.dat rs (.bl _)
  · cases e
    cases hx.int
    cases hy.int
    refine .inl ⟨rfl, ?_⟩
    rw [dec_int']
    exact q.dat rs (.bl _)
  · unfold eqD at e
    split at e
    · rename_i hc
      cases e
      exact .inr ⟨_, _, hx.dp rs.sub hc.1, hy.dp rs.sub hc.2.1, hc.2.2.1, hc.2.2.2, q.dat rs (.bl _)⟩
    · cases e
theorem hNe : ∀ x y res v u ρ F H, RS K σ ρ F H → PK K F H x v → PK K F H y u → kNe x y = some res → ∀ Q, FinR K σ ρ F H res Q → rNe2 K v u H Q := by
  intro x y res v u ρ F H rs hx hy e Q q
  unfold kNe eqS at e
  split at e
  · cases e
    cases hx.str
    cases hy.str
    refine .inl ⟨rfl, ?_⟩
    rw [dec_str]
    exact q.dat rs (.bl _)
  · cases e
    cases hx.int
    cases hy.int
    refine .inl ⟨rfl, ?_⟩
    rw [dec_int']
    exact q.dat rs (.bl _)
  · unfold eqD at e
    split at e
    · rename_i hc
      cases e
      exact .inr ⟨_, _, hx.dp rs.sub hc.1, hy.dp rs.sub hc.2.1, hc.2.2.1, hc.2.2.2, q.dat rs (.bl _)⟩
    · cases e
def isNon : D → Bool
  | .non => true
  | _ => false
theorem PK.isNon (h : PK K F H x v) : decide (v = .non) = isNon x := by
  rcases h with h | ⟨p, rfl, _, o, _, w⟩
  · cases h <;> rfl
  · cases x with
    | non => cases o <;> exact w.elim
    | _ => rfl
def kIs (b : Bool) : D → D → Option R
  | x, .non => some (.d (.bl (if b then isNon x else !isNon x)))
  | _, _ => none
theorem hIs : ∀ x y res v u ρ F H, RS K σ ρ F H → PK K F H x v → PK K F H y u → kIs true x y = some res → ∀ Q, FinR K σ ρ F H res Q → (u = .non ∧ Q (.bl (decide (v = .non))) H) := by
  intro x y res v u ρ F H rs hx hy e Q q
  unfold kIs at e
  split at e
  · cases e
    cases hy.non
    refine ⟨rfl, ?_⟩
    rw [hx.isNon]
    exact q.dat rs (.bl _)
  · cases e
theorem hIsN : ∀ x y res v u ρ F H, RS K σ ρ F H → PK K F H x v → PK K F H y u → kIs false x y = some res → ∀ Q, FinR K σ ρ F H res Q → (u = .non ∧ Q (.bl (!decide (v = .non))) H) := by
  intro x y res v u ρ F H rs hx hy e Q q
  unfold kIs at e
  split at e
  · cases e
    cases hy.non
    refine ⟨rfl, ?_⟩
    rw [hx.isNon]
    exact q.dat rs (.bl _)
  · cases e
/-! in -/
def flatD : D → Bool
  | .non => true
  | .bl _ => true
  | .int _ => true
  | .str _ => true
  | _ => false
theorem Rep.flat (h : Rep K F x v) (e : flatD x = true) : flatV v = true ∧ ∀ {y : D} {u : V}, Rep K F y u → flatD y = true → eqV u v = PyData.eqv (toPy y) (toPy x) := by
  cases h with
  | tup _ _ => cases e
  | lst _ _ => cases e
  | dK _ _ _ => cases e
  | dT _ _ _ => cases e
  | src _ => cases e
  | _ => exact ⟨rfl, fun {y u} r f => by
      cases r with
      | tup _ _ => cases f
      | lst _ _ => cases f
      | dK _ _ _ => cases f
      | dT _ _ _ => cases f
      | src _ => cases f
      | _ => simp [eqV, toPy, PyData.eqv]⟩
theorem Reps.flat (h : Rep K F x v) (e : flatD x = true) : ∀ {ys : List D} {us : List V}, Reps K F ys us → ys.all flatD = true → us.all flatV = true ∧ inV v us = ys.any fun y => PyData.eqv (toPy y) (toPy x)
  | _, _, .nil, _ => ⟨rfl, rfl⟩
  | y :: ys, u :: us, .cons r t, f => by
    rw [List.all_cons, Bool.and_eq_true] at f
    obtain ⟨i1, i2⟩ := Reps.flat h e t f.2
    have q := (h.flat e).2 r f.1
    refine ⟨by rw [List.all_cons, (r.flat f.1).1, i1]; rfl, ?_⟩
    unfold inV at i2 ⊢
    rw [List.any_cons, List.any_cons, q, i2]
theorem PK.flatR (h : PK K F H x v) (e : flatD x = true) : Rep K F x v := by
  rcases h with h | ⟨p, _, _, o, _, w⟩
  · exact h
  · cases x with
    | lst _ => cases e
    | dK _ => cases e
    | dT _ => cases e
    | _ => cases o <;> exact w.elim
def inD (x y : D) : Option Bool := match y with
  | .tup ys => if flatD x = true ∧ ys.all flatD = true then some (ys.any fun y => PyData.eqv (toPy y) (toPy x)) else none
  | .lst ys => if isPy x = true ∧ isPys ys = true ∧ SeqAt.shaped (toPy x) = true ∧ SeqAt.shaped (.list (toPys ys)) = true then some ((toPys ys).any fun z => PyData.eqv z (toPy x)) else none
  | .str z => (match x with
    | .str i => some (!(Builtin.Str.occurrences z i 0 z.length 1).isEmpty)
    | _ => none)
  | _ => none
def kIn (x y : D) : Option R := (inD x y).map fun b => .d (.bl b)
def kNi (x y : D) : Option R := (inD x y).map fun b => .d (.bl !b)
def rIn3 (K : Fg) : R2 := fun x y H Q => rIn K false x y H Q ∨ rInD K x y H Q ∨ (∃ i j, x = .str i ∧ y = .str j ∧ Q (.bl (!(Builtin.Str.occurrences j i 0 j.length 1).isEmpty)) H)
def rNi3 (K : Fg) : R2 := fun x y H Q => rIn K true x y H Q ∨ rNotInD K x y H Q ∨ (∃ i j, x = .str i ∧ y = .str j ∧ Q (.bl (!(!(Builtin.Str.occurrences j i 0 j.length 1).isEmpty))) H)
theorem op_in3 {X : Cx} (hu : X.A.units + 65 < cLine) : OpR X (compareOp .In) (rIn3 X.K) := OpR.or op_in_seq (OpR.or (op_inD hu) op_in_str)
theorem op_ni3 {X : Cx} (hu : X.A.units + 65 < cLine) : OpR X (compareOp .NotIn) (rNi3 X.K) := OpR.or op_notIn_seq (OpR.or (op_notInD hu) op_notin_str)
theorem hIn : ∀ x y res v u ρ F H, RS K σ ρ F H → PK K F H x v → PK K F H y u → kIn x y = some res → ∀ Q, FinR K σ ρ F H res Q → rIn3 K v u H Q := by
  intro x y res v u ρ F H rs hx hy e Q q
  unfold kIn inD at e
  split at e
  · split at e
    · rename_i hc
      cases e
      obtain ⟨a, xs, rfl, ha, ra⟩ := hy.tup rs.sub
      obtain ⟨i1, i2⟩ := Reps.flat (hx.flatR hc.1) hc.1 ra hc.2
      refine .inl ⟨a, xs, rfl, .inr ha, ((hx.flatR hc.1).flat hc.1).1, i1, ?_⟩
      rw [if_neg (by decide), i2]
      exact q.dat rs (.bl _)
    · cases e
  · split at e
    · rename_i hc
      cases e
      exact .inr (.inl ⟨_, _, hx.dp rs.sub hc.1, hy.dp rs.sub hc.2.1, hc.2.2.1, hc.2.2.2, q.dat rs (.bl _)⟩)
    · cases e
  · split at e
    · cases e
      cases hx.str
      cases hy.str
      exact .inr (.inr ⟨_, _, rfl, rfl, q.dat rs (.bl _)⟩)
    · cases e
  · cases e
theorem hNi : ∀ x y res v u ρ F H, RS K σ ρ F H → PK K F H x v → PK K F H y u → kNi x y = some res → ∀ Q, FinR K σ ρ F H res Q → rNi3 K v u H Q := by
  intro x y res v u ρ F H rs hx hy e Q q
  unfold kNi inD at e
  split at e
  · split at e
    · rename_i hc
      cases e
      obtain ⟨a, xs, rfl, ha, ra⟩ := hy.tup rs.sub
      obtain ⟨i1, i2⟩ := Reps.flat (hx.flatR hc.1) hc.1 ra hc.2
      refine .inl ⟨a, xs, rfl, .inr ha, ((hx.flatR hc.1).flat hc.1).1, i1, ?_⟩
      rw [if_pos rfl, i2]
      exact q.dat rs (.bl _)
    · cases e
  · split at e
    · rename_i hc
      cases e
      exact .inr (.inl ⟨_, _, hx.dp rs.sub hc.1, hy.dp rs.sub hc.2.1, hc.2.2.1, hc.2.2.2, q.dat rs (.bl _)⟩)
    · cases e
  · split at e
    · cases e
      cases hx.str
      cases hy.str
      exact .inr (.inr ⟨_, _, rfl, rfl, q.dat rs (.bl _)⟩)
    · cases e
  · cases e
section
variable {X : Cx} {a b c : Expr} {pos : Pos}
/-- a comparison's rule and its function -/
structure CmpF (X : Cx) (op : CmpOp) (k : D → D → Option R) (r : R2) : Prop where
  rule : OpR X (compareOp op) r
  fn : ∀ {σ : St} x y res v u ρ F H, RS X.K σ ρ F H → PK X.K F H x v → PK X.K F H y u → k x y = some res → ∀ Q, FinR X.K σ ρ F H res Q → r v u H Q
theorem cLt : CmpF X .Lt kLt (rI0 fun i j => .bl (decide (i < j))) := ⟨op_lt, hCmp⟩
theorem cLe : CmpF X .LtE kLe (rI0 fun i j => .bl (decide (i ≤ j))) := ⟨op_le, hCmp⟩
theorem cGt : CmpF X .Gt kGt (rI0 fun i j => .bl (decide (j < i))) := ⟨op_gt, hCmp⟩
theorem cGe : CmpF X .GtE kGe (rI0 fun i j => .bl (decide (j ≤ i))) := ⟨op_ge, hCmp⟩
theorem cEq (hu : X.A.units + 64 < cLine) : CmpF X .Eq kEq (rEq2 X.K) := ⟨OpR.or op_eq (op_eqD hu), hEq⟩
theorem cNe (hu : X.A.units + 64 < cLine) : CmpF X .NotEq kNe (rNe2 X.K) := ⟨OpR.or op_ne (op_neD hu), hNe⟩
theorem cIs : CmpF X .Is (kIs true) (fun x y H Q => y = .non ∧ Q (.bl (decide (x = .non))) H) := ⟨op_isN, hIs⟩
theorem cIsN : CmpF X .IsNot (kIs false) (fun x y H Q => y = .non ∧ Q (.bl (!decide (x = .non))) H) := ⟨op_notN, hIsN⟩
theorem cIn (hu : X.A.units + 65 < cLine) : CmpF X .In kIn (rIn3 X.K) := ⟨op_in3 hu, hIn⟩
theorem cNi (hu : X.A.units + 65 < cLine) : CmpF X .NotIn kNi (rNi3 X.K) := ⟨op_ni3 hu, hNi⟩
theorem pe_cmpD {op : CmpOp} {k : D → D → Option R} {r : R2} (C : CmpF X op k r) (ha : PE X a (LE X.K X.mg W fa)) (hb : PE X b (LE X.K X.mg W fb)) (hm : behindInMarks op b = false) : PE X (.Compare a [op] [b] pos) (LE X.K X.mg W (o2 fa fb k)) :=
  PE.imp (pe_cmpR C.rule ha hb hm) fun _ _ _ h => LE.two h fun x y res v u ρ F H rs hx hy e q => C.fn x y res v u ρ F H rs hx hy e _ q
end

/-! ### tests -/
def LT (K : Fg) (mg : MG) (W : WX) (f : Dx Bool) : TT := fun σ H Q => ∃ ρ F r ρ', RS K σ ρ F H ∧ f ρ = some (r, ρ') ∧
  match (r : Except Exn Bool) with
  | .ok b => ∀ F' H', RS K σ ρ' F' H' → Gr σ ρ F H σ ρ' F' H' → Q b H'
  | .error x => EX K mg W σ ρ F H x ρ'
def kTru : D → Option Bool
  | .non => some false
  | .bl b => some b
  | .int i => some (i != 0)
  | .str y => if y.length ≤ sizeLine then some ((y.length : Int) != 0) else none
  | .tup xs => some (!xs.isEmpty)
  | .lst xs => some (!xs.isEmpty)
  | _ => none
def tV (f : DE) : Dx Bool := bE f fun a => fun ρ => match (pk ρ (nrm a)).bind kTru with
  | some b => some (.ok b, ρ)
  | none => none
theorem Reps.emp {xs : List D} {vs : List V} (h : Reps K F xs vs) : (!vs.isEmpty) = !xs.isEmpty := by cases h <;> rfl
theorem kTru_ok (rs : RS K σ ρ F H) (h : PK K F H x v) {b : Bool} (e : kTru x = some b) : TruV K v H b := by
  cases x with
  | non => cases e; cases h.non; rfl
  | bl c => cases e; cases h.bl; rfl
  | int i => cases e; cases h.int; rfl
  | str y =>
    have e : (if y.length ≤ sizeLine then some ((y.length : Int) != 0) else none) = some b := e
    split at e
    · cases e
      cases h.str
      exact ⟨by assumption, rfl⟩
    · cases e
  | tup xs =>
    cases e
    obtain ⟨a, vs, rfl, ha, ra⟩ := h.tup rs.sub
    exact .inr (.inl ⟨vs, ha, ra.emp.symm⟩)
  | lst xs =>
    cases e
    obtain ⟨a, vs, rfl, ha, ra⟩ := h.lst rs.sub
    exact .inl ⟨vs, SqL.of ha, ra.emp.symm⟩
  | _ => cases e
theorem LT.val {Q : Bool → Hp → Prop} (h : LT K mg W (tV f) σ H Q) : LE K mg W f σ H fun v H' => ∃ k, TruV K v H' k ∧ Q k H' := by
  obtain ⟨ρ, F, r, ρ', rs, e, q⟩ := h
  refine LE.opnd (k := fun a => fun ρ => match (pk ρ a).bind kTru with
    | some b => some (.ok b, ρ)
    | none => none) rs e (fun x hx => by subst hx; exact q) fun a v ρ1 F1 H1 rs1 g1 ro e1 => ?_
  cases ea : pk ρ1 a with
  | none => simp [ea] at e1
  | some x =>
    cases eb : kTru x with
    | none => simp [ea, eb] at e1
    | some b =>
      simp only [ea, eb, Option.bind_some] at e1
      cases e1
      exact ⟨b, kTru_ok rs1 (pk_ok rs1 ro ea) eb, q F1 H1 rs1 g1⟩
theorem pt_valD {X : Cx} {a : Expr} (ha : PE X a (LE X.K X.mg W fa)) (he : ∀ whole, isTrue a X.env whole = (do let v ← whole; standAt a.pos; holding [v] (truthy v)) := by intro _; rfl) : PT X a (LT X.K X.mg W (tV fa)) :=
  PT.imp (pt_truth ha he) fun _ _ _ h => LT.val h
/-- a comparison as a test -/
def tB (f : DE) : Dx Bool := bE f fun a => fun ρ => match a with
  | .d (.bl b) => some (.ok b, ρ)
  | _ => none
theorem LT.bool {Q : Bool → Hp → Prop} (h : LT K mg W (tB f) σ H Q) : LE K mg W f σ H fun v H' => ∃ k, v = .bl k ∧ Q k H' := by
  obtain ⟨ρ, F, r, ρ', rs, e, q⟩ := h
  refine LE.bind rs e (fun x hx => by subst hx; exact q) fun a v ρ1 F1 H1 rs1 g1 rr e1 => ?_
  cases a with
  | d x =>
    cases x with
    | bl b =>
      cases e1
      cases rr
      exact ⟨b, rfl, q F1 H1 rs1 g1⟩
    | _ => cases e1
  | _ => cases e1
theorem pt_cmpD {X : Cx} {a b : Expr} {pos : Pos} {op : CmpOp} {k : D → D → Option R} {r : R2} (C : CmpF X op k r) (ha : PE X a (LE X.K X.mg W fa)) (hb : PE X b (LE X.K X.mg W fb)) (hm : behindInMarks op b = false) :
    PT X (.Compare a [op] [b] pos) (LT X.K X.mg W (tB (o2 fa fb k))) :=
  PT.imp (pt_cmpR C.rule ha hb hm) fun _ _ _ h => LE.two (LT.bool h) fun x y res v u ρ F H rs hx hy e q => C.fn x y res v u ρ F H rs hx hy e _ q
variable {t t1 t2 : Dx Bool}
theorem LT.bind {β : Type} {k : Bool → Dx β} {r : Except Exn β} {G : Bool → Hp → Prop} (rs : RS K σ ρ F H) (e : bE t k ρ = some (r, ρ'))
    (herr : ∀ x, r = .error x → EX K mg W σ ρ F H x ρ')
    (hok : ∀ b ρ1 F1 H1, RS K σ ρ1 F1 H1 → Gr σ ρ F H σ ρ1 F1 H1 → k b ρ1 = some (r, ρ') → G b H1) : LT K mg W t σ H G := by
  unfold bE at e
  cases q : t ρ with
  | none => rw [q] at e; cases e
  | some z =>
    obtain ⟨ra, ρ1⟩ := z
    rw [q] at e
    cases ra with
    | error x =>
      cases e
      exact ⟨ρ, F, .error x, ρ', rs, q, herr x rfl⟩
    | ok a => exact ⟨ρ, F, .ok a, ρ1, rs, q, fun F' H' rs' g => hok a ρ1 F' H' rs' g e⟩
theorem EX.trans {x : Exn} (g : Gr σ ρ F H σ ρ1 F1 H1) (h : EX K mg W σ ρ F H x ρ') : EX K mg W σ ρ1 F1 H1 x ρ' := fun cls d F' H' rs' g' xr => h cls d F' H' rs' (g.trans g') xr
def tAn (t1 t2 : Dx Bool) : Dx Bool := bE t1 fun b => if b then t2 else rE false
def tOrr (t1 t2 : Dx Bool) : Dx Bool := bE t1 fun b => if b then rE true else t2
def tNo (t : Dx Bool) : Dx Bool := bE t fun b => rE !b
theorem LT.and {Q : Bool → Hp → Prop} (h : LT K mg W (tAn t1 t2) σ H Q) : tAnd (LT K mg W t1) (LT K mg W t2) σ H Q := by
  obtain ⟨ρ, F, r, ρ', rs, e, q⟩ := h
  refine LT.bind rs e (fun x hx => by subst hx; exact q) fun b ρ1 F1 H1 rs1 g1 e1 => ?_
  cases b with
  | false =>
    cases e1
    rw [if_neg (by decide)]
    exact q F1 H1 rs1 g1
  | true =>
    rw [if_pos rfl]
    refine ⟨ρ1, F1, r, ρ', rs1, e1, ?_⟩
    cases r with
    | error x => exact EX.trans g1 q
    | ok c => exact fun F' H' rs' g' => q F' H' rs' (g1.trans g')
theorem LT.or {Q : Bool → Hp → Prop} (h : LT K mg W (tOrr t1 t2) σ H Q) : tOr (LT K mg W t1) (LT K mg W t2) σ H Q := by
  obtain ⟨ρ, F, r, ρ', rs, e, q⟩ := h
  refine LT.bind rs e (fun x hx => by subst hx; exact q) fun b ρ1 F1 H1 rs1 g1 e1 => ?_
  cases b with
  | true =>
    cases e1
    rw [if_pos rfl]
    exact q F1 H1 rs1 g1
  | false =>
    rw [if_neg (by decide)]
    refine ⟨ρ1, F1, r, ρ', rs1, e1, ?_⟩
    cases r with
    | error x => exact EX.trans g1 q
    | ok c => exact fun F' H' rs' g' => q F' H' rs' (g1.trans g')
theorem LT.not {Q : Bool → Hp → Prop} (h : LT K mg W (tNo t) σ H Q) : tNot (LT K mg W t) σ H Q := by
  obtain ⟨ρ, F, r, ρ', rs, e, q⟩ := h
  refine LT.bind rs e (fun x hx => by subst hx; exact q) fun b ρ1 F1 H1 rs1 g1 e1 => ?_
  cases e1
  exact q F1 H1 rs1 g1
theorem PW.imp {X : Cx} {e : Expr} {t t' : TT} (h : PW X e t) (i : ∀ σ H Q, t' σ H Q → t σ H Q) : PW X e t' := ⟨fun wh pins s σ H Q I q => h.run wh pins s σ H Q I (i σ H Q q)⟩
section
variable {X : Cx} {a b c : Expr} {pos : Pos} {rest : List Expr}
theorem pw_andD (ha : PT X a (LT X.K X.mg W t1)) (hb : PW X (.BoolOp .And (b :: rest) pos) (LT X.K X.mg W t2)) : PW X (.BoolOp .And (a :: b :: rest) pos) (LT X.K X.mg W (tAn t1 t2)) := PW.imp (pw_and ha hb) fun _ _ _ h => LT.and h
theorem pw_orD (ha : PT X a (LT X.K X.mg W t1)) (hb : PW X (.BoolOp .Or (b :: rest) pos) (LT X.K X.mg W t2)) : PW X (.BoolOp .Or (a :: b :: rest) pos) (LT X.K X.mg W (tOrr t1 t2)) := PW.imp (pw_or ha hb) fun _ _ _ h => LT.or h
theorem pt_notD (ha : PT X a (LT X.K X.mg W t)) : PT X (.UnaryOp .Not a pos) (LT X.K X.mg W (tNo t)) := PT.imp (pt_not ha) fun _ _ _ h => LT.not h
def xIf (t : Dx Bool) (fa fb : DE) : DE := bE t fun b => if b then fa else fb
theorem pe_ifD (ht : PT X c (LT X.K X.mg W t)) (ha : PE X a (LE X.K X.mg W fa)) (hb : PE X b (LE X.K X.mg W fb)) : PE X (.IfExp c a b pos) (LE X.K X.mg W (xIf t fa fb)) :=
  PE.imp (pe_ifExp ht ha hb) fun σ H Q h => by
    obtain ⟨ρ, F, r, ρ', rs, e, q⟩ := h
    refine LT.bind rs e (fun x hx => by subst hx; exact q) fun b ρ1 F1 H1 rs1 g1 e1 => ?_
    have fin : EE X.K X.mg W σ ρ1 F1 H1 r ρ' Q := by
      cases r with
      | error x => exact EX.trans g1 q
      | ok c => exact fun v F' H' rs' g' rr => q v F' H' rs' (g1.trans g') (RR.weak g1.live rr)
    cases b with
    | true => exact ⟨ρ1, F1, r, ρ', rs1, e1, fin⟩
    | false => exact ⟨ρ1, F1, r, ρ', rs1, e1, fin⟩
end
end
end Dn
end

section
set_option Elab.async false
set_option linter.all false
set_option maxRecDepth 100000
set_option maxHeartbeats 2000000
/-! Dn: a def's promise by its function; calls. -/
namespace Dn
open PySem PySem.Spec L2
/-- a def's function: what the parameters hold; what comes back, and what the parameters hold then -/
abbrev FD := List S → Option (Except Exn R × List S)
def sl (ss : List S) : Env := ss.map some
def st (vs : List V) : L2.St := vs.map some
/-- the promise of a def with n parameters: it is its function -/
def spD (K : Fg) (mg : MG) (n : Nat) (f : FD) : Sp := fun vs H Q E => ∃ ss F r outs, RS K (st vs) (sl ss) F H ∧ ss.length = n ∧ f ss = some (r, outs) ∧
  ∀ F' H', RS K (st vs) (sl outs) F' H' → Gr (st vs) (sl ss) F H (st vs) (sl outs) F' H' →
    match (r : Except Exn R) with
    | .ok a => ∀ v, RR K (st vs) (sl outs) F' H' H a v → Q v H'
    | .error x => ∀ cls d, XR K mg F' x cls d → E cls d H'
theorem spD_len {K : Fg} {mg : MG} {n : Nat} {f : FD} {ps : List Str} (h : n = ps.length) : ∀ vs H Q E, spD K mg n f vs H Q E → vs.length = ps.length := by
  rintro vs H Q E ⟨ss, F, r, outs, rs, hl, _⟩
  have e := rs.len
  unfold sl st at e
  rw [List.length_map, List.length_map] at e
  omega
def toS (ρ : Env) : List R → Option (List S)
  | [] => some []
  | .d x :: as => (toS ρ as).map (.d x :: ·)
  | .o _ :: _ => none
  | .s i :: as => match gt ρ i, toS ρ as with
    | some s, some ss => some (s :: ss)
    | _, _ => none
/-- the slots among operands -/
def slots : List R → List Nat
  | [] => []
  | .s i :: as => i :: slots as
  | _ :: as => slots as
/-- what was lent comes back -/
def wb : Env → List R → List S → Env
  | ρ, .s i :: as, o :: os => wb (ρ.set i (some o)) as os
  | ρ, _ :: as, _ :: os => wb ρ as os
  | ρ, _, _ => ρ
def noS : Except Exn R → Bool
  | .ok (.s _) => false
  | _ => true
/-- what a call gives -/
def cEnd (f : FD) (as : List R) (ρ : Env) (ss : List S) : Option (Except Exn R × Env) := match f ss with
  | some (r, outs) => if noS r = true ∧ (slots as).Nodup then some (r, wb ρ as outs) else none
  | none => none
def dCall (f : FD) (fs : List DE) (ds : List D) : DE := bE (eA fs) fun as => fun ρ => match toS ρ as with
  | some ss => cEnd f as ρ (ss ++ ds.map .d)
  | none => none
theorem cEnd_some {f : FD} {as : List R} {ρ ρ' : Env} {ss : List S} {r : Except Exn R} (e : cEnd f as ρ ss = some (r, ρ')) : ∃ outs, f ss = some (r, outs) ∧ noS r = true ∧ (slots as).Nodup ∧ ρ' = wb ρ as outs := by
  unfold cEnd at e
  cases q : f ss with
  | none => rw [q] at e; cases e
  | some z =>
    obtain ⟨r2, outs⟩ := z
    rw [q] at e
    dsimp only at e
    split at e
    · rename_i h
      cases e
      exact ⟨outs, rfl, h.1, h.2, rfl⟩
    · cases e
theorem gt_sl {ss : List S} {j : Nat} : gt (sl ss) j = ss[j]? := by
  induction ss generalizing j with
  | nil => rfl
  | cons a r ih =>
    cases j with
    | zero => rfl
    | succ j => exact ih
theorem st_get {vs : List V} {j : Nat} {v : V} : (st vs)[j]? = some (some v) ↔ vs[j]? = some v := by
  unfold st
  rw [List.getElem?_map]
  cases vs[j]? with
  | none => simp
  | some w => simp
theorem wb_len : ∀ {as : List R} {os : List S} {ρ : Env}, (wb ρ as os).length = ρ.length
  | [], os, ρ => by cases os <;> rfl
  | a :: as, [], ρ => by cases a <;> rfl
  | .s i :: as, o :: os, ρ => by
    show (wb (ρ.set i (some o)) as os).length = _
    rw [wb_len, List.length_set]
  | .d _ :: as, o :: os, ρ => wb_len (as := as) (os := os) (ρ := ρ)
  | .o _ :: as, o :: os, ρ => wb_len (as := as) (os := os) (ρ := ρ)
theorem wb_out : ∀ {as : List R} {os : List S} {ρ : Env} {i : Nat}, i ∉ slots as → gt (wb ρ as os) i = gt ρ i
  | [], os, ρ, i, _ => by cases os <;> rfl
  | a :: as, [], ρ, i, _ => by cases a <;> rfl
  | .s k :: as, o :: os, ρ, i, h => by
    show gt (wb (ρ.set k (some o)) as os) i = _
    have h1 : i ≠ k ∧ i ∉ slots as := by
      constructor
      · intro z
        exact h (by rw [z]; exact List.mem_cons_self)
      · intro z
        exact h (List.mem_cons_of_mem _ z)
    rw [wb_out h1.2, gt_ne h1.1]
  | .d _ :: as, o :: os, ρ, i, h => wb_out (as := as) (os := os) (ρ := ρ) h
  | .o _ :: as, o :: os, ρ, i, h => wb_out (as := as) (os := os) (ρ := ρ) h
theorem wb_at : ∀ {as : List R} {os : List S} {ρ : Env} {i j : Nat} {o : S}, (slots as).Nodup → as[j]? = some (.s i) → os[j]? = some o → i < ρ.length → gt (wb ρ as os) i = some o
  | [], _, _, _, _, _, _, h, _, _ => by simp at h
  | _ :: _, [], _, _, _, _, _, _, h, _ => by simp at h
  | a :: as, p :: os, ρ, i, 0, o, nd, h1, h2, hl => by
    simp at h1 h2
    subst h1
    subst h2
    show gt (wb (ρ.set i (some p)) as os) i = _
    have n : i ∉ slots as := (List.nodup_cons.mp nd).1
    rw [wb_out n, gt_same hl]
  | .s k :: as, p :: os, ρ, i, j + 1, o, nd, h1, h2, hl => wb_at (j := j) (ρ := ρ.set k (some p)) (List.nodup_cons.mp nd).2 (by simpa using h1) (by simpa using h2) (by rw [List.length_set]; exact hl)
  | .d _ :: as, p :: os, ρ, i, j + 1, o, nd, h1, h2, hl => wb_at (as := as) (j := j) nd (by simpa using h1) (by simpa using h2) hl
  | .o _ :: as, p :: os, ρ, i, j + 1, o, nd, h1, h2, hl => wb_at (as := as) (j := j) nd (by simpa using h1) (by simpa using h2) hl
theorem mem_slots : ∀ {as : List R} {i : Nat}, i ∈ slots as → ∃ j : Nat, as[j]? = some (.s i)
  | .s k :: as, i, h => by
    rcases List.mem_cons.mp h with h | h
    · exact ⟨0, by rw [h]; rfl⟩
    · obtain ⟨j, e⟩ := mem_slots h
      exact ⟨j + 1, e⟩
  | .d _ :: as, i, h => by
    obtain ⟨j, e⟩ := mem_slots (as := as) h
    exact ⟨j + 1, e⟩
  | .o _ :: as, i, h => by
    obtain ⟨j, e⟩ := mem_slots (as := as) h
    exact ⟨j + 1, e⟩
theorem slots_mem : ∀ {as : List R} {i j : Nat}, as[j]? = some (.s i) → i ∈ slots as
  | [], _, _, h => by simp at h
  | a :: as, i, 0, h => by
    simp at h
    subst h
    exact List.mem_cons_self
  | .s l :: as, i, j + 1, h => List.mem_cons_of_mem _ (slots_mem (j := j) (by simpa using h))
  | .d _ :: as, i, j + 1, h => slots_mem (as := as) (j := j) (by simpa using h)
  | .o _ :: as, i, j + 1, h => slots_mem (as := as) (j := j) (by simpa using h)
theorem nodup_slots : ∀ {as : List R} {i j k : Nat}, (slots as).Nodup → as[j]? = some (.s i) → as[k]? = some (.s i) → j = k
  | [], _, _, _, _, h, _ => by simp at h
  | a :: as, i, 0, 0, _, _, _ => rfl
  | a :: as, i, 0, k + 1, nd, h1, h2 => by
    simp at h1 h2
    subst h1
    refine absurd ?_ (List.nodup_cons.mp nd).1
    clear nd
    induction as generalizing k with
    | nil => simp at h2
    | cons b r ih =>
      cases k with
      | zero =>
        simp at h2
        subst h2
        exact List.mem_cons_self
      | succ k =>
        have := ih k (by simpa using h2)
        cases b with
        | s l => exact List.mem_cons_of_mem _ this
        | d _ => exact this
        | o _ => exact this
  | a :: as, i, j + 1, 0, nd, h1, h2 => by
    exact (nodup_slots (j := 0) (k := j + 1) nd h2 h1).symm
  | a :: as, i, j + 1, k + 1, nd, h1, h2 => by
    have nd' : (slots as).Nodup := by
      cases a with
      | s l => exact (List.nodup_cons.mp nd).2
      | d _ => exact nd
      | o _ => exact nd
    exact congrArg (· + 1) (nodup_slots nd' (by simpa using h1) (by simpa using h2))
section
variable {K : Fg} {mg : MG} {W : WX} {σ : L2.St} {ρ ρ1 ρ' : Env} {F F1 H H1 H0 : Hp}
theorem toS_get : ∀ {as : List R} {ss : List S} {j : Nat} {s : S}, toS ρ as = some ss → ss[j]? = some s → ∃ a, as[j]? = some a ∧ ((∃ x, a = .d x ∧ s = .d x) ∨ ∃ i, a = .s i ∧ gt ρ i = some s)
  | [], ss, j, s, e, h => by
    cases e
    simp at h
  | .d x :: as, ss, j, s, e, h => by
    cases q : toS ρ as with
    | none => simp [toS, q] at e
    | some ts =>
      simp [toS, q] at e
      subst e
      cases j with
      | zero =>
        simp at h
        exact ⟨_, rfl, .inl ⟨x, rfl, h.symm⟩⟩
      | succ j => exact toS_get (j := j) q (by simpa using h)
  | .o x :: as, ss, j, s, e, h => by cases e
  | .s i :: as, ss, j, s, e, h => by
    cases g : gt ρ i with
    | none => simp [toS, g] at e
    | some z =>
      cases q : toS ρ as with
      | none => simp [toS, q] at e
      | some ts =>
        simp [toS, q, g] at e
        subst e
        cases j with
        | zero =>
          simp at h
          subst h
          exact ⟨_, rfl, .inr ⟨i, rfl, g⟩⟩
        | succ j => exact toS_get (j := j) q (by simpa using h)
theorem toS_len : ∀ {as : List R} {ss : List S}, toS ρ as = some ss → ss.length = as.length
  | [], ss, e => by cases e; rfl
  | .d x :: as, ss, e => by
    cases q : toS ρ as with
    | none => simp [toS, q] at e
    | some ts =>
      simp [toS, q] at e
      subst e
      exact congrArg (· + 1) (toS_len q)
  | .o x :: as, ss, e => by cases e
  | .s i :: as, ss, e => by
    cases g : gt ρ i with
    | none => simp [toS, g] at e
    | some z =>
      cases q : toS ρ as with
      | none => simp [toS, q] at e
      | some ts =>
        simp [toS, q, g] at e
        subst e
        exact congrArg (· + 1) (toS_len q)
theorem ROs.get : ∀ {as : List R} {vs : List V} {j : Nat} {a : R}, ROs K σ F as vs → as[j]? = some a → ∃ v, vs[j]? = some v ∧ RO K σ F a v
  | _, _, _, _, .nil, h => by simp at h
  | _, _, 0, _, .cons r _, h => by
    simp at h
    subst h
    exact ⟨_, rfl, r⟩
  | _, _, j + 1, _, .cons _ t, h => ROs.get (j := j) t (by simpa using h)
theorem ROs.length : ∀ {as : List R} {vs : List V}, ROs K σ F as vs → as.length = vs.length
  | _, _, .nil => rfl
  | _, _, .cons _ t => congrArg (· + 1) (ROs.length t)
/-- the callee's world -/
theorem RS.call {as : List R} {vs dvs : List V} {ss : List S} {ds : List D} (rs : RS K σ ρ F H) (ro : ROs K σ F as vs) (e : toS ρ as = some ss) (nd : (slots as).Nodup) (hd : Reps K F ds dvs) :
    RS K (st (vs ++ dvs)) (sl (ss ++ ds.map .d)) F H := by
  have hl : ss.length = vs.length := (toS_len e).trans ro.length
  have at_ : ∀ (j : Nat) (s : S), (ss ++ ds.map .d)[j]? = some s → (∃ x v, s = .d x ∧ (vs ++ dvs)[j]? = some v ∧ Rep K F x v) ∨ ∃ i, as[j]? = some (.s i) ∧ gt ρ i = some s ∧ ∃ v, (vs ++ dvs)[j]? = some v ∧ σ[i]? = some (some v) := by
    intro j s h
    by_cases q : j < ss.length
    · rw [List.getElem?_append_left q] at h
      obtain ⟨a, ha, h⟩ := toS_get e h
      obtain ⟨v, hv, r⟩ := ro.get ha
      have hv' : (vs ++ dvs)[j]? = some v := by rw [List.getElem?_append_left (by omega)]; exact hv
      rcases h with ⟨x, rfl, rfl⟩ | ⟨i, rfl, h⟩
      · exact .inl ⟨x, v, rfl, hv', r⟩
      · exact .inr ⟨i, ha, h, v, hv', r⟩
    · rw [List.getElem?_append_right (by omega), List.getElem?_map] at h
      cases g : ds[j - ss.length]? with
      | none => rw [g] at h; cases h
      | some x =>
        rw [g] at h
        cases h
        obtain ⟨v, hv, r⟩ := hd.get g
        exact .inl ⟨x, v, rfl, by rw [List.getElem?_append_right (by omega), ← hl]; exact hv, r⟩
  refine ⟨rs.sub, ?_, fun j x h => ?_, fun j x h => ?_, fun j k x y p h1 h2 h3 h4 => ?_⟩
  · unfold sl st
    rw [List.length_map, List.length_map, List.length_append, List.length_append, List.length_map, hl, hd.length]
  · rw [gt_sl] at h
    rcases at_ j _ h with ⟨z, v, e1, hv, r⟩ | ⟨i, _, hg, v, hv, hs⟩
    · cases e1
      exact ⟨v, st_get.mpr hv, r⟩
    · obtain ⟨w, e2, r⟩ := rs.dat i x hg
      rw [hs] at e2
      cases e2
      exact ⟨v, st_get.mpr hv, r⟩
  · rw [gt_sl] at h
    rcases at_ j _ h with ⟨z, v, e1, hv, r⟩ | ⟨i, _, hg, v, hv, hs⟩
    · cases e1
    · obtain ⟨p, e2, r⟩ := rs.own i x hg
      rw [hs] at e2
      cases e2
      exact ⟨p, st_get.mpr hv, r⟩
  · rw [gt_sl] at h1 h2
    rcases at_ j _ h1 with ⟨z, v, e1, hv, r⟩ | ⟨i, a1, hg, v, hv, hs⟩
    · cases e1
    · rcases at_ k _ h2 with ⟨z, v2, e1, hv2, r⟩ | ⟨i2, a2, hg2, v2, hv2, hs2⟩
      · cases e1
      · have e1 := st_get.mp h3
        have e2 := st_get.mp h4
        rw [hv] at e1
        rw [hv2] at e2
        cases e1
        cases e2
        have := rs.inj i i2 x y p hg hg2 hs hs2
        subst this
        exact nodup_slots nd a1 a2
/-- back in the caller's world -/
theorem RS.back {as : List R} {vs dvs : List V} {ss outs : List S} {ds : List D} {F' H' : Hp} (rs : RS K σ ρ F H) (ro : ROs K σ F as vs) (e : toS ρ as = some ss) (nd : (slots as).Nodup)
    (rc : RS K (st (vs ++ dvs)) (sl (ss ++ ds.map .d)) F H) (rs' : RS K (st (vs ++ dvs)) (sl outs) F' H') (g : Gr (st (vs ++ dvs)) (sl (ss ++ ds.map .d)) F H (st (vs ++ dvs)) (sl outs) F' H') :
    RS K σ (wb ρ as outs) F' H' ∧ Gr σ ρ F H σ (wb ρ as outs) F' H' ∧ ∀ p, Ow (wb ρ as outs) σ p → Ow ρ σ p ∨ Ow (sl outs) (st (vs ++ dvs)) p := by
  have hl : ss.length = vs.length := (toS_len e).trans ro.length
  have ho : outs.length = (vs ++ dvs).length := by
    have := rs'.len
    unfold sl st at this
    rwa [List.length_map, List.length_map] at this
  -- a slot that was lent
  have lent : ∀ i ∈ slots as, ∃ (j : Nat) (v : V) (o : S), as[j]? = some (.s i) ∧ (vs ++ dvs)[j]? = some v ∧ σ[i]? = some (some v) ∧ outs[j]? = some o ∧ gt (wb ρ as outs) i = some o := by
    intro i hi
    obtain ⟨j, ha⟩ := mem_slots hi
    obtain ⟨v, hv, r⟩ := ro.get ha
    have hj : j < vs.length := (List.getElem?_eq_some_iff.mp hv).1
    have hjo : j < outs.length := by
      rw [ho, List.length_append]
      omega
    have hσ : σ[i]? = some (some v) := r
    have hi2 : i < ρ.length := by
      rw [rs.len]
      exact (List.getElem?_eq_some_iff.mp hσ).1
    exact ⟨j, v, outs[j], ha, by rw [List.getElem?_append_left hj]; exact hv, hσ, List.getElem?_eq_getElem hjo, wb_at nd ha (List.getElem?_eq_getElem hjo) hi2⟩
  -- who is own in the callee is own here
  have ow1 : ∀ p, Ow (sl (ss ++ ds.map .d)) (st (vs ++ dvs)) p → ∃ i x, i ∈ slots as ∧ gt ρ i = some (.o x) ∧ σ[i]? = some (some (.ref p)) := by
    rintro p ⟨j, x, h1, h2⟩
    rw [gt_sl] at h1
    have h2 := st_get.mp h2
    by_cases q : j < ss.length
    · rw [List.getElem?_append_left q] at h1
      obtain ⟨a, ha, h⟩ := toS_get e h1
      obtain ⟨v, hv, r⟩ := ro.get ha
      rw [List.getElem?_append_left (by omega), hv] at h2
      cases h2
      rcases h with ⟨z, rfl, h⟩ | ⟨i, rfl, h⟩
      · cases h
      · refine ⟨i, x, ?_, h, r⟩
        exact slots_mem ha
    · rw [List.getElem?_append_right (by omega), List.getElem?_map] at h1
      cases g : ds[j - ss.length]? with
      | none => rw [g] at h1; cases h1
      | some x => rw [g] at h1; cases h1
  have nOw : ∀ a, ¬ Ow ρ σ a → ¬ Ow (sl (ss ++ ds.map .d)) (st (vs ++ dvs)) a := fun a n h => by
    obtain ⟨i, x, _, h1, h2⟩ := ow1 a h
    exact n ⟨i, x, h1, h2⟩
  -- an own slot that was not lent
  have rest : ∀ (i : Nat) (x : D) (p : Addr), i ∉ slots as → gt ρ i = some (.o x) → σ[i]? = some (some (.ref p)) → ¬ Ow (sl (ss ++ ds.map .d)) (st (vs ++ dvs)) p := fun i x p hi h1 h2 h => by
    obtain ⟨k, y, hk, h3, h4⟩ := ow1 p h
    have := rs.inj i k x y p h1 h3 h2 h4
    subst this
    exact hi hk
  have own' : ∀ (i : Nat) (x : D), gt (wb ρ as outs) i = some (.o x) → ∃ p, σ[i]? = some (some (.ref p)) ∧ F' p = none ∧ OwnAt K F' H' p x ∧ ((i ∉ slots as ∧ gt ρ i = some (.o x)) ∨ ∃ j, as[j]? = some (.s i) ∧ gt (sl outs) j = some (.o x) ∧ (st (vs ++ dvs))[j]? = some (some (.ref p))) := by
    intro i x h
    by_cases q : i ∈ slots as
    · obtain ⟨j, v, o, ha, hv, hσ, hoj, hw⟩ := lent i q
      rw [hw] at h
      cases h
      have h1 : gt (sl outs) j = some (.o x) := by rw [gt_sl]; exact hoj
      obtain ⟨p, e1, e2, e3⟩ := rs'.own j x h1
      have e1' := st_get.mp e1
      rw [hv] at e1'
      cases e1'
      exact ⟨p, hσ, e2, e3, .inr ⟨j, ha, h1, e1⟩⟩
    · rw [wb_out q] at h
      obtain ⟨p, e1, e2, o, e3, e4⟩ := rs.own i x h
      have n := rest i x p q h e1
      have hp : H p ≠ none := by rw [e3]; simp
      exact ⟨p, e1, g.nofz p hp n e2, ⟨o, by rw [g.keep p hp n]; exact e3, e4.sub g.mono⟩, .inl ⟨q, h⟩⟩
  refine ⟨⟨rs'.sub, by rw [wb_len]; exact rs.len, fun i x h => ?_, fun i x h => ?_, fun i k x y p h1 h2 h3 h4 => ?_⟩, ⟨fun a h n => g.keep a h (nOw a n), g.live, g.mono, fun a h n => g.nofz a h (nOw a n), fun p h => ?_⟩, fun p h => ?_⟩
  · by_cases q : i ∈ slots as
    · obtain ⟨j, v, o, ha, hv, hσ, hoj, hw⟩ := lent i q
      rw [hw] at h
      cases h
      obtain ⟨w, e1, r⟩ := rs'.dat j x (by rw [gt_sl]; exact hoj)
      have e1' := st_get.mp e1
      rw [hv] at e1'
      cases e1'
      exact ⟨v, hσ, r⟩
    · rw [wb_out q] at h
      obtain ⟨w, e1, r⟩ := rs.dat i x h
      exact ⟨w, e1, r.sub g.mono⟩
  · obtain ⟨p, e1, e2, e3, _⟩ := own' i x h
    exact ⟨p, e1, e2, e3⟩
  · obtain ⟨p1, a1, _, _, c1⟩ := own' i x h1
    obtain ⟨p2, a2, _, _, c2⟩ := own' k y h2
    rw [h3] at a1
    rw [h4] at a2
    cases a1
    cases a2
    have mixed : ∀ {i k : Nat} {x y : D}, (i ∉ slots as ∧ gt ρ i = some (.o x)) → σ[i]? = some (some (.ref p)) → (∃ j, as[j]? = some (.s k) ∧ gt (sl outs) j = some (.o y) ∧ (st (vs ++ dvs))[j]? = some (some (.ref p))) → False := by
      rintro i k x y ⟨hi, hg⟩ hσ ⟨j, ha, h5, h6⟩
      have hO : Ow (sl outs) (st (vs ++ dvs)) p := ⟨j, y, h5, h6⟩
      rcases g.sub p hO with z | z
      · exact rest i x p hi hg hσ z
      · exact (rs.ow_some ⟨i, x, hg, hσ⟩).1 z
    rcases c1 with c1 | c1
    · rcases c2 with c2 | c2
      · exact rs.inj i k x y p c1.2 c2.2 h3 h4
      · exact (mixed c1 h3 c2).elim
    · rcases c2 with c2 | c2
      · exact (mixed c2 h4 c1).elim
      · obtain ⟨j1, b1, b2, b3⟩ := c1
        obtain ⟨j2, d1, d2, d3⟩ := c2
        have := rs'.inj j1 j2 x y p b2 d2 b3 d3
        subst this
        rw [b1] at d1
        cases d1
        rfl
  · obtain ⟨i, x, h1, h2⟩ := h
    obtain ⟨q, e1, _, _, c⟩ := own' i x h1
    rw [h2] at e1
    cases e1
    rcases c with c | ⟨j, ha, h3, h4⟩
    · exact .inl ⟨i, x, c.2, h2⟩
    · rcases g.sub p ⟨j, x, h3, h4⟩ with z | z
      · obtain ⟨k, y, _, z1, z2⟩ := ow1 p z
        exact .inl ⟨k, y, z1, z2⟩
      · exact .inr z
  · obtain ⟨i, x, h1, h2⟩ := h
    obtain ⟨q, e1, _, _, c⟩ := own' i x h1
    rw [h2] at e1
    cases e1
    rcases c with c | ⟨j, ha, h3, h4⟩
    · exact .inl ⟨i, x, c.2, h2⟩
    · exact .inr ⟨j, x, h3, h4⟩
theorem LE.call {n : Nat} {fd : FD} {fs : List DE} {ds : List D} {dvs : List V} {Q : VK} (hd : ∀ F, Reps K F ds dvs) (hn : fs.length + ds.length = n)
    (h : LE K mg W (dCall fd fs ds) σ H Q) : tCallSD (spD K mg n fd) dvs (WE W) (LA K mg W fs) σ H Q := by
  obtain ⟨ρ, F, r, ρ', rs, e, q⟩ := h
  have hl : ∀ as ρ1, eA fs ρ = some (.ok as, ρ1) → as.length = fs.length := fun as ρ1 e => eA_len e
  unfold dCall bE at e
  cases ef : eA fs ρ with
  | none => rw [ef] at e; cases e
  | some z =>
    obtain ⟨ra, ρ1⟩ := z
    rw [ef] at e
    cases ra with
    | error x =>
      cases e
      exact ⟨ρ, F, .error x, _, rs, ef, q⟩
    | ok as =>
      refine ⟨ρ, F, .ok as, ρ1, rs, ef, fun vs F1 H1 rs1 g1 ro => ?_⟩
      dsimp only at e
      cases es : toS ρ1 as with
      | none => rw [es] at e; cases e
      | some ss =>
        rw [es] at e
        obtain ⟨outs, eo, ns, nd, rfl⟩ := cEnd_some e
        have rc := RS.call rs1 ro es nd (hd F1)
        refine ⟨ss ++ ds.map .d, F1, r, outs, rc, ?_, eo, fun F' H' rs' g' => ?_⟩
        · rw [List.length_append, List.length_map, toS_len es, hl as ρ1 ef]
          exact hn
        · obtain ⟨b1, b2, b3⟩ := RS.back rs1 ro es nd rc rs' g'
          cases r with
          | error x => exact fun cls d xr => q cls d F' H' b1 (g1.trans b2) xr
          | ok a =>
            refine fun v rr => q v F' H' b1 (g1.trans b2) (RR.weak g1.live ?_)
            cases a with
            | d x => exact rr
            | s i => cases ns
            | o x =>
              obtain ⟨p, rfl, hp, ho, hf, ow⟩ := rr
              exact ⟨p, rfl, hp, fun z => (b3 p z).elim (fun z => (rs1.ow_some z).1 hp) ho, hf, ow⟩
end
end Dn
end

section
set_option Elab.async false
set_option linter.all false
set_option maxRecDepth 100000
set_option maxHeartbeats 2000000
/-! Dn: statements, loops, a def's body. -/
namespace Dn
open PySem PySem.Spec L2
section
variable {K : Fg} {mg : MG} {W : WX} {pr : Nat → Bool} {σ σ1 σ' : L2.St} {ρ ρ1 ρ' : Env} {F F1 F' H H1 H' H0 : Hp} {v u : V} {f fa fb : DE} {x y : D} {g g1 g2 : DS} {c : Ctl} {D0 : Ends}
/-- the end c, in the world behind; H0 the heap ahead -/
def CE' (K : Fg) (mg : MG) (W : WX) (H0 : Hp) (σ' : L2.St) (ρ' : Env) (F' H' : Hp) (D0 : Ends) : Ctl → Prop
  | .nx => D0.nx σ' H'
  | .bk => D0.bk σ' H'
  | .ct => D0.ct σ' H'
  | .rt r => ∀ v, RR K σ' ρ' F' H' H0 r v → D0.rt v H'
  | .ex x => ∀ cls d, XR K mg F' x cls d → W cls d σ' H'
def ES (K : Fg) (mg : MG) (W : WX) (pr : Nat → Bool) (σ : L2.St) (ρ : Env) (F H : Hp) (c : Ctl) (ρ' : Env) (D0 : Ends) : Prop :=
  ∀ σ' F' H', RS K σ' ρ' F' H' → Gr σ ρ F H σ' ρ' F' H' → (∀ j : Nat, pr j = true → σ'[j]? = σ[j]?) → CE' K mg W H σ' ρ' F' H' D0 c
/-- a statement's reading by its function; pr: the slots that it leaves -/
def LS (K : Fg) (mg : MG) (W : WX) (pr : Nat → Bool) (g : DS) : TS := fun D0 σ H => ∃ ρ F c ρ', RS K σ ρ F H ∧ g ρ = some (c, ρ') ∧ ES K mg W pr σ ρ F H c ρ' D0
theorem CE'.weak {a : Ctl} (l : ∀ a, H0 a ≠ none → H1 a ≠ none) (h : CE' K mg W H0 σ' ρ' F' H' D0 a) : CE' K mg W H1 σ' ρ' F' H' D0 a := by
  cases a with
  | rt r => exact fun v rr => h v (RR.weak l rr)
  | _ => exact h
theorem ES.shift (e : ES K mg W pr σ ρ F H c ρ' D0) (gr : Gr σ ρ F H σ1 ρ1 F1 H1) (p : ∀ j : Nat, pr j = true → σ1[j]? = σ[j]?) : ES K mg W pr σ1 ρ1 F1 H1 c ρ' D0 := fun σ' F' H' rs' g' p' =>
  CE'.weak gr.live (e σ' F' H' rs' (gr.trans g') fun j hj => (p' j hj).trans (p j hj))

def sSkip : DS := fun ρ => some (.nx, ρ)
def sBrk : DS := fun ρ => some (.bk, ρ)
def sCnt : DS := fun ρ => some (.ct, ρ)
def sSeq (g1 g2 : DS) : DS := fun ρ => match g1 ρ with
  | some (.nx, ρ1) => g2 ρ1
  | o => o
theorem LS.skip {D0 : Ends} {σ : L2.St} {H : Hp} (h : LS K mg W pr sSkip D0 σ H) : D0.nx σ H := by
  obtain ⟨ρ, F, c, ρ', rs, e, q⟩ := h
  cases e
  exact q σ F H rs Gr.refl fun _ _ => rfl
theorem LS.brk {D0 : Ends} {σ : L2.St} {H : Hp} (h : LS K mg W pr sBrk D0 σ H) : D0.bk σ H := by
  obtain ⟨ρ, F, c, ρ', rs, e, q⟩ := h
  cases e
  exact q σ F H rs Gr.refl fun _ _ => rfl
theorem LS.cnt {D0 : Ends} {σ : L2.St} {H : Hp} (h : LS K mg W pr sCnt D0 σ H) : D0.ct σ H := by
  obtain ⟨ρ, F, c, ρ', rs, e, q⟩ := h
  cases e
  exact q σ F H rs Gr.refl fun _ _ => rfl
theorem LS.seq {D0 : Ends} {σ : L2.St} {H : Hp} (h : LS K mg W pr (sSeq g1 g2) D0 σ H) : tSeq (LS K mg W pr g1) (LS K mg W pr g2) D0 σ H := by
  obtain ⟨ρ, F, c, ρ', rs, e, q⟩ := h
  unfold sSeq at e
  cases e1 : g1 ρ with
  | none => rw [e1] at e; cases e
  | some z =>
    obtain ⟨c1, ρ1⟩ := z
    rw [e1] at e
    refine ⟨ρ, F, c1, ρ1, rs, e1, ?_⟩
    cases c1 with
    | nx => exact fun σ1 F1 H1 rs1 g1 p1 => ⟨ρ1, F1, c, ρ', rs1, e, q.shift g1 p1⟩
    | bk => cases e; exact q
    | ct => cases e; exact q
    | rt r => cases e; exact q
    | ex x => cases e; exact q
section
variable {X : Cx} {s : Stmt} {ss : List Stmt} {pos : Pos}
theorem pss_consD (h1 : PS X s (LS X.K X.mg W pr g1)) (h2 : PSs X ss (LS X.K X.mg W pr g2)) : PSs X (s :: ss) (LS X.K X.mg W pr (sSeq g1 g2)) := PSs.imp (pss_cons h1 h2) fun _ _ _ h => LS.seq h
theorem pss_nilD : PSs X [] (LS X.K X.mg W pr sSkip) := PSs.imp pss_nil fun _ _ _ h => LS.skip h
theorem ps_passD : PS X (.Pass pos) (LS X.K X.mg W pr sSkip) := PS.imp ps_pass fun _ _ _ h => LS.skip h
theorem ps_brkD : PS X (.Break pos) (LS X.K X.mg W pr sBrk) := PS.imp ps_break fun _ _ _ h => LS.brk h
theorem ps_cntD : PS X (.Continue pos) (LS X.K X.mg W pr sCnt) := PS.imp ps_continue fun _ _ _ h => LS.cnt h
end

/-! ### from expressions to statements -/
def bS {α : Type} (f : Dx α) (k : α → DS) : DS := fun ρ => match f ρ with
  | none => none
  | some (.error x, ρ1) => some (.ex x, ρ1)
  | some (.ok a, ρ1) => k a ρ1
theorem LE.bindS {k : R → DS} {G : VK} (rs : RS K σ ρ F H) (e : bS fa k ρ = some (c, ρ')) (q : ES K mg W pr σ ρ F H c ρ' D0)
    (hok : ∀ a v ρ1 F1 H1, RS K σ ρ1 F1 H1 → Gr σ ρ F H σ ρ1 F1 H1 → RR K σ ρ1 F1 H1 H a v → k a ρ1 = some (c, ρ') → G v H1) : LE K mg W fa σ H G := by
  unfold bS at e
  cases z : fa ρ with
  | none => rw [z] at e; cases e
  | some z1 =>
    obtain ⟨ra, ρ1⟩ := z1
    rw [z] at e
    cases ra with
    | error x =>
      cases e
      exact ⟨ρ, F, .error x, _, rs, z, fun cls d F' H' rs' g' xr => q σ F' H' rs' g' (fun _ _ => rfl) cls d xr⟩
    | ok a => exact ⟨ρ, F, .ok a, ρ1, rs, z, fun v F' H' rs' g' rr => hok a v ρ1 F' H' rs' g' rr e⟩
theorem LT.bindS {t : Dx Bool} {k : Bool → DS} {G : Bool → Hp → Prop} (rs : RS K σ ρ F H) (e : bS t k ρ = some (c, ρ')) (q : ES K mg W pr σ ρ F H c ρ' D0)
    (hok : ∀ b ρ1 F1 H1, RS K σ ρ1 F1 H1 → Gr σ ρ F H σ ρ1 F1 H1 → k b ρ1 = some (c, ρ') → G b H1) : LT K mg W t σ H G := by
  unfold bS at e
  cases z : t ρ with
  | none => rw [z] at e; cases e
  | some z1 =>
    obtain ⟨ra, ρ1⟩ := z1
    rw [z] at e
    cases ra with
    | error x =>
      cases e
      exact ⟨ρ, F, .error x, _, rs, z, fun cls d F' H' rs' g' xr => q σ F' H' rs' g' (fun _ _ => rfl) cls d xr⟩
    | ok a => exact ⟨ρ, F, .ok a, ρ1, rs, z, fun F' H' rs' g' => hok a ρ1 F' H' rs' g' e⟩

/-- slot i gets data -/
theorem setD {i : Nat} (rs : RS K σ ρ F H) (hi : i < ρ.length) (r : Rep K F x v) : RS K (σ.set i (some v)) (ρ.set i (some (.d x))) F H ∧ Gr σ ρ F H (σ.set i (some v)) (ρ.set i (some (.d x))) F H := by
  have hi2 : i < σ.length := by rw [← rs.len]; exact hi
  have old : ∀ (j : Nat) (y : D), gt (ρ.set i (some (.d x))) j = some (.o y) → j ≠ i ∧ gt ρ j = some (.o y) := fun j y h => by
    by_cases q : j = i
    · subst q
      rw [gt_same hi] at h
      cases h
    · rw [gt_ne q] at h
      exact ⟨q, h⟩
  have so : ∀ (j : Nat), j ≠ i → (σ.set i (some v))[j]? = σ[j]? := fun j q => List.getElem?_set_ne (Ne.symm q)
  refine ⟨⟨rs.sub, by rw [List.length_set, List.length_set]; exact rs.len, fun j y h => ?_, fun j y h => ?_, fun j k y z p h1 h2 h3 h4 => ?_⟩, ⟨fun _ _ _ => rfl, fun _ h => h, Sub.refl, fun _ _ _ h => h, fun p h => ?_⟩⟩
  · by_cases q : j = i
    · subst q
      rw [gt_same hi] at h
      cases h
      exact ⟨v, by rw [List.getElem?_set_self hi2], r⟩
    · rw [gt_ne q] at h
      rw [so j q]
      exact rs.dat j y h
  · obtain ⟨q, h⟩ := old j y h
    rw [so j q]
    exact rs.own j y h
  · obtain ⟨q1, h1⟩ := old j y h1
    obtain ⟨q2, h2⟩ := old k z h2
    rw [so j q1] at h3
    rw [so k q2] at h4
    exact rs.inj j k y z p h1 h2 h3 h4
  · obtain ⟨j, y, h1, h2⟩ := h
    obtain ⟨q, h1⟩ := old j y h1
    rw [so j q] at h2
    exact .inl ⟨j, y, h1, h2⟩
/-- slot i gets a new own thing -/
theorem setO {i : Nat} (rs : RS K σ ρ F H) (hi : i < ρ.length) (hn : ∀ p, v = .ref p → H0 p = none) (r : RR K σ ρ F H H0 (.o x) v) :
    RS K (σ.set i (some v)) (ρ.set i (some (.o x))) F H ∧ ∀ p, Ow (ρ.set i (some (.o x))) (σ.set i (some v)) p → Ow ρ σ p ∨ H0 p = none := by
  obtain ⟨p, rfl, h0, no, hf, ow⟩ := r
  have hi2 : i < σ.length := by rw [← rs.len]; exact hi
  have so : ∀ (j : Nat), j ≠ i → (σ.set i (some (V.ref p)))[j]? = σ[j]? := fun j q => List.getElem?_set_ne (Ne.symm q)
  have old : ∀ (j : Nat) (y : D), gt (ρ.set i (some (.o x))) j = some (.o y) → (j = i ∧ y = x) ∨ (j ≠ i ∧ gt ρ j = some (.o y)) := fun j y h => by
    by_cases q : j = i
    · subst q
      rw [gt_same hi] at h
      cases h
      exact .inl ⟨rfl, rfl⟩
    · rw [gt_ne q] at h
      exact .inr ⟨q, h⟩
  refine ⟨⟨rs.sub, by rw [List.length_set, List.length_set]; exact rs.len, fun j y h => ?_, fun j y h => ?_, fun j k y z q h1 h2 h3 h4 => ?_⟩, fun q h => ?_⟩
  · by_cases q : j = i
    · subst q
      rw [gt_same hi] at h
      cases h
    · rw [gt_ne q] at h
      rw [so j q]
      exact rs.dat j y h
  · rcases old j y h with ⟨rfl, rfl⟩ | ⟨q, h⟩
    · exact ⟨p, by rw [List.getElem?_set_self hi2], hf, ow⟩
    · rw [so j q]
      exact rs.own j y h
  · rcases old j y h1 with ⟨e1, e2⟩ | ⟨q1, n1⟩
    · rcases old k z h2 with ⟨e3, e4⟩ | ⟨q2, n2⟩
      · rw [e1, e3]
      · subst e1
        rw [List.getElem?_set_self hi2] at h3
        cases h3
        rw [so k q2] at h4
        exact (no ⟨k, z, n2, h4⟩).elim
    · rcases old k z h2 with ⟨e3, e4⟩ | ⟨q2, n2⟩
      · subst e3
        rw [List.getElem?_set_self hi2] at h4
        cases h4
        rw [so j q1] at h3
        exact (no ⟨j, y, n1, h3⟩).elim
      · rw [so j q1] at h3
        rw [so k q2] at h4
        exact rs.inj j k y z q n1 n2 h3 h4
  · obtain ⟨j, y, h1, h2⟩ := h
    rcases old j y h1 with ⟨e1, e2⟩ | ⟨q1, h1⟩
    · subst e1
      rw [List.getElem?_set_self hi2] at h2
      cases h2
      exact .inr h0
    · rw [so j q1] at h2
      exact .inl ⟨j, y, h1, h2⟩
/-- x = e -/
def setR (i : Nat) (a : R) : DS := fun ρ => match a with
  | .d x => if i < ρ.length then some (.nx, ρ.set i (some (.d x))) else none
  | .o x => if i < ρ.length then some (.nx, ρ.set i (some (.o x))) else none
  | .s j => match frzS ρ j with
    | some (x, ρ1) => if i < ρ1.length then some (.nx, ρ1.set i (some (.d x))) else none
    | none => none
theorem setR_ok {i : Nat} {a : R} (hp : pr i = false) (rs1 : RS K σ ρ1 F1 H1) (gr : Gr σ ρ F H σ ρ1 F1 H1) (rr : RR K σ ρ1 F1 H1 H a v) (e : setR i a ρ1 = some (c, ρ')) (q : ES K mg W pr σ ρ F H c ρ' D0) : D0.nx (σ.set i (some v)) H1 := by
  have pp : ∀ j : Nat, pr j = true → (σ.set i (some v))[j]? = σ[j]? := fun j hj => List.getElem?_set_ne (fun z => by subst z; rw [hp] at hj; cases hj)
  unfold setR at e
  cases a with
  | d x =>
    dsimp only at e
    split at e
    · rename_i hi
      cases e
      obtain ⟨a, b⟩ := setD rs1 hi rr
      exact q _ _ _ a (gr.trans b) pp
    · cases e
  | o x =>
    dsimp only at e
    split at e
    · rename_i hi
      cases e
      obtain ⟨a, b⟩ := setO rs1 hi (fun p z => by obtain ⟨p', e1, e2, _⟩ := rr; rw [e1] at z; cases z; exact e2) rr
      exact q _ _ _ a ⟨gr.keep, gr.live, gr.mono, gr.nofz, fun p h => (b p h).elim (gr.sub p) .inr⟩ pp
    · cases e
  | s j =>
    dsimp only at e
    cases z : frzS ρ1 j with
    | none => rw [z] at e; cases e
    | some w =>
      obtain ⟨x, ρ2⟩ := w
      rw [z] at e
      dsimp only at e
      split at e
      · rename_i hi
        cases e
        obtain ⟨F2, rs2, g2, rp⟩ := frzS_ok rs1 rr.1 z
        obtain ⟨a, b⟩ := setD rs2 hi rp
        exact q _ _ _ a (gr.trans (g2.trans b)) pp
      · cases e
def sSet (i : Nat) (f : DE) : DS := bS f (setR i)
theorem LS.set {i : Nat} (hp : pr i = false) {D0 : Ends} {σ : L2.St} {H : Hp} (h : LS K mg W pr (sSet i f) D0 σ H) : tAsg (LE K mg W f) (gName i) D0 σ H := by
  obtain ⟨ρ, F, c, ρ', rs, e, q⟩ := h
  exact LE.bindS rs e q fun a v ρ1 F1 H1 rs1 g1 rr e1 => setR_ok hp rs1 g1 rr e1 q
/-- return e -/
def retR (a : R) : DS := fun ρ => match a with
  | .d x => some (.rt (.d x), ρ)
  | .o x => some (.rt (.o x), ρ)
  | .s j => match frzS ρ j with
    | some (x, ρ1) => some (.rt (.d x), ρ1)
    | none => none
def sRet (f : DE) : DS := bS f retR
theorem LS.ret {D0 : Ends} {σ : L2.St} {H : Hp} (h : LS K mg W pr (sRet f) D0 σ H) : tRet (LE K mg W f) D0 σ H := by
  obtain ⟨ρ, F, c, ρ', rs, e, q⟩ := h
  refine LE.bindS rs e q fun a v ρ1 F1 H1 rs1 g1 rr e1 => ?_
  unfold retR at e1
  cases a with
  | d x =>
    cases e1
    exact q σ F1 H1 rs1 g1 (fun _ _ => rfl) v rr
  | o x =>
    cases e1
    exact q σ F1 H1 rs1 g1 (fun _ _ => rfl) v rr
  | s j =>
    dsimp only at e1
    cases z : frzS ρ1 j with
    | none => rw [z] at e1; cases e1
    | some w =>
      obtain ⟨x, ρ2⟩ := w
      rw [z] at e1
      cases e1
      obtain ⟨F2, rs2, g2, rp⟩ := frzS_ok rs1 rr.1 z
      exact q σ F2 H1 rs2 (g1.trans g2) (fun _ _ => rfl) v rp
def sRetN : DS := fun ρ => some (.rt (.d .non), ρ)
theorem LS.retN {D0 : Ends} {σ : L2.St} {H : Hp} (h : LS K mg W pr sRetN D0 σ H) : tRetN D0 σ H := by
  obtain ⟨ρ, F, c, ρ', rs, e, q⟩ := h
  cases e
  exact q σ F H rs Gr.refl (fun _ _ => rfl) .non .non
/-- e, its value dropped -/
def sExp (f : DE) : DS := bS f fun _ ρ => some (.nx, ρ)
theorem LS.exp {D0 : Ends} {σ : L2.St} {H : Hp} (h : LS K mg W pr (sExp f) D0 σ H) : tDrop (LE K mg W f) D0 σ H := by
  obtain ⟨ρ, F, c, ρ', rs, e, q⟩ := h
  refine LE.bindS rs e q fun a v ρ1 F1 H1 rs1 g1 rr e1 => ?_
  cases e1
  exact q σ F1 H1 rs1 g1 fun _ _ => rfl
def sIf (t : Dx Bool) (g1 g2 : DS) : DS := bS t fun b => if b then g1 else g2
theorem LS.ifs {t : Dx Bool} {D0 : Ends} {σ : L2.St} {H : Hp} (h : LS K mg W pr (sIf t g1 g2) D0 σ H) : tIfS (LT K mg W t) (LS K mg W pr g1) (LS K mg W pr g2) D0 σ H := by
  obtain ⟨ρ, F, c, ρ', rs, e, q⟩ := h
  refine LT.bindS rs e q fun b ρ1 F1 H1 rs1 gr e1 => ?_
  cases b with
  | true => exact ⟨ρ1, F1, c, ρ', rs1, e1, q.shift gr fun _ _ => rfl⟩
  | false => exact ⟨ρ1, F1, c, ρ', rs1, e1, q.shift gr fun _ _ => rfl⟩
section
variable {X : Cx} {pos p' : Pos} {e : Expr} {i : Nat} {n : Str} {a b : List Stmt} {tst : Expr} {t : Dx Bool}
theorem ps_setD (hp : pr i = false) (hN : X.N.Nodup) (hi : X.N[i]? = some n) (hx : Loc X.env.scope n) (he : PE X e (LE X.K X.mg W f)) (hs : swapsWith e (some (.Name n p')) pos.line X.env = pure false := by rfl)
    (hf : X.fn n = true ∨ X.env.scope.names.lookup n = some .local := by first | exact .inl rfl | exact .inr rfl | assumption) : PS X (.Assign [.Name n p'] e pos) (LS X.K X.mg W pr (sSet i f)) := PS.imp (ps_set hN hi hx he hs hf) fun _ _ _ h => LS.set hp h
theorem ps_retD (he : PE X e (LE X.K X.mg W f)) : PS X (.Return (some e) pos) (LS X.K X.mg W pr (sRet f)) := PS.imp (ps_ret he) fun _ _ _ h => LS.ret h
theorem ps_retND : PS X (.Return none pos) (LS X.K X.mg W pr sRetN) := PS.imp ps_retN fun _ _ _ h => LS.retN h
theorem ps_expD (he : PE X e (LE X.K X.mg W f)) (hs : swapsWith e none pos.line X.env = pure false := by rfl) : PS X (.Expr e pos) (LS X.K X.mg W pr (sExp f)) := PS.imp (ps_expr he hs) fun _ _ _ h => LS.exp h
theorem ps_ifD (ht : PT X tst (LT X.K X.mg W t)) (ha : PSs X a (LS X.K X.mg W pr g1)) (hb : PSs X b (LS X.K X.mg W pr g2)) : PS X (.If tst a b pos) (LS X.K X.mg W pr (sIf t g1 g2)) := PS.imp (ps_if ht ha hb) fun _ _ _ h => LS.ifs h
end

/-! ### while -/
def whN (t : Dx Bool) (g : DS) : Nat → DS
  | 0, _ => none
  | n + 1, ρ => match t ρ with
    | none => none
    | some (.error x, ρ1) => some (.ex x, ρ1)
    | some (.ok false, ρ1) => some (.nx, ρ1)
    | some (.ok true, ρ1) => match g ρ1 with
      | none => none
      | some (.nx, ρ2) => whN t g n ρ2
      | some (.ct, ρ2) => whN t g n ρ2
      | some (.bk, ρ2) => some (.nx, ρ2)
      | some (.rt r, ρ2) => some (.rt r, ρ2)
      | some (.ex x, ρ2) => some (.ex x, ρ2)
theorem LS.whl {t : Dx Bool} {n : Nat} {D0 : Ends} {σ : L2.St} {H : Hp} (h : LS K mg W pr (whN t g n) D0 σ H) : tWhile (LT K mg W t) (LS K mg W pr g) D0 σ H := by
  obtain ⟨ρ, F, c, ρ', rs, e, q⟩ := h
  refine ⟨fun m σ1 H1 => ∃ ρ1 F1, RS K σ1 ρ1 F1 H1 ∧ Gr σ ρ F H σ1 ρ1 F1 H1 ∧ (∀ j : Nat, pr j = true → σ1[j]? = σ[j]?) ∧ whN t g m ρ1 = some (c, ρ'), ⟨n, ρ, F, rs, Gr.refl, fun _ _ => rfl, e⟩, ?_⟩
  rintro m σ1 H1 ⟨ρ1, F1, rs1, gr, p1, e1⟩
  cases m with
  | zero => cases e1
  | succ m =>
    have q1 := q.shift gr p1
    unfold whN at e1
    cases z : t ρ1 with
    | none => rw [z] at e1; cases e1
    | some w =>
      obtain ⟨rt, ρ2⟩ := w
      rw [z] at e1
      cases rt with
      | error x =>
        cases e1
        exact ⟨ρ1, F1, .error x, _, rs1, z, fun cls d F' H' rs' g' xr => q1 σ1 F' H' rs' g' (fun _ _ => rfl) cls d xr⟩
      | ok b =>
        refine ⟨ρ1, F1, .ok b, ρ2, rs1, z, fun F2 H2 rs2 g2 => ?_⟩
        cases b with
        | false =>
          cases e1
          rw [if_neg (by decide)]
          exact q1 σ1 F2 H2 rs2 g2 fun _ _ => rfl
        | true =>
          rw [if_pos rfl]
          dsimp only at e1
          have q2 := q1.shift g2 fun _ _ => rfl
          refine ⟨fun σ3 H3 => ∃ ρ3 F3, RS K σ3 ρ3 F3 H3 ∧ Gr σ ρ F H σ3 ρ3 F3 H3 ∧ (∀ j : Nat, pr j = true → σ3[j]? = σ[j]?) ∧ whN t g m ρ3 = some (c, ρ'), fun σ3 H3 ⟨ρ3, F3, w⟩ => ⟨m, Nat.lt_succ_self m, ρ3, F3, w⟩, ?_⟩
          cases y : g ρ2 with
          | none => rw [y] at e1; cases e1
          | some w =>
            obtain ⟨c2, ρ3⟩ := w
            rw [y] at e1
            refine ⟨ρ2, F2, c2, ρ3, rs2, y, ?_⟩
            cases c2 with
            | nx => exact fun σ3 F3 H3 rs3 g3 p3 => ⟨ρ3, F3, rs3, gr.trans (g2.trans g3), fun j hj => (p3 j hj).trans (p1 j hj), e1⟩
            | ct => exact fun σ3 F3 H3 rs3 g3 p3 => ⟨ρ3, F3, rs3, gr.trans (g2.trans g3), fun j hj => (p3 j hj).trans (p1 j hj), e1⟩
            | bk => cases e1; exact q2
            | rt r => cases e1; exact q2
            | ex x => cases e1; exact q2
theorem ps_whlD {X : Cx} {tst : Expr} {b : List Stmt} {pos : Pos} {t : Dx Bool} (n : Nat) (hp : PassesOwn (model X.prog X.w) X.A X.env X.xe) (ht : PT X tst (LT X.K X.mg W t)) (hb : PSs X b (LS X.K X.mg W pr g)) : PS X (.While tst b [] pos) (LS X.K X.mg W pr (whN t g n)) :=
  PS.imp (ps_while hp ht hb) fun _ _ _ h => LS.whl h

/-! ### what is walked -/
def Stp (F H F' H' : Hp) : Prop := (F' = F ∧ H' = H) ∨ ∃ p o, H p = none ∧ F' = upd F p o ∧ H' = upd H p o
theorem Stp.ok (s : Stp F H F' H') (rs : RS K σ ρ F H) : RS K σ ρ F' H' ∧ Gr σ ρ F H σ ρ F' H' := by
  rcases s with ⟨rfl, rfl⟩ | ⟨p, o, hp, rfl, rfl⟩
  · exact ⟨rs, Gr.refl⟩
  · obtain ⟨a, b, _⟩ := newF (o := o) rs hp
    exact ⟨a, b⟩
/-- J gives the items xs, one after the other, as long as F0 stands -/
def Gives (K : Fg) (J : It) (xs : List D) (F0 : Hp) : Prop := ∀ (i : Nat) (F H : Hp), Sub F0 F → Sub F H →
  (xs.length ≤ i → J.stop i H) ∧ ∀ d, xs[i]? = some d → J.go i H ∧ ∀ v H', J.yld i H v H' → ∃ F', Stp F H F' H' ∧ Rep K F' d v
def LI (K : Fg) (mg : MG) (W : WX) (f : Dx (List D)) : TI := fun σ H R0 => ∃ ρ F r ρ', RS K σ ρ F H ∧ f ρ = some (r, ρ') ∧
  match (r : Except Exn (List D)) with
  | .ok xs => ∀ F' H' J, RS K σ ρ' F' H' → Gr σ ρ F H σ ρ' F' H' → Gives K J xs F' → R0 J H'
  | .error x => EX K mg W σ ρ F H x ρ'
/-- a target's function -/
abbrev GT := D → Env → Option Env
def LG (K : Fg) (pr : Nat → Bool) (t : GT) : TG := fun v σ H Q => ∃ ρ F x ρ', RS K σ ρ F H ∧ Rep K F x v ∧ t x ρ = some ρ' ∧
  ∀ σ' F' H', RS K σ' ρ' F' H' → Gr σ ρ F H σ' ρ' F' H' → (∀ j : Nat, pr j = true → σ'[j]? = σ[j]?) → Q σ' H'
def gNm (i : Nat) : GT := fun x ρ => if i < ρ.length then some (ρ.set i (some (.d x))) else none
theorem LG.name {i : Nat} (hp : pr i = false) {σ : L2.St} {H : Hp} {Q : L2.St → Hp → Prop} (h : LG K pr (gNm i) v σ H Q) : gName i v σ H Q := by
  obtain ⟨ρ, F, x, ρ', rs, r, e, q⟩ := h
  unfold gNm at e
  split at e
  · rename_i hi
    cases e
    obtain ⟨a, b⟩ := setD rs hi r
    exact q _ _ _ a b fun j hj => List.getElem?_set_ne (fun z => by subst z; rw [hp] at hj; cases hj)
  · cases e
/-- a tuple's items, one after the other -/
def gTs : List GT → List D → Env → Option Env
  | [], [], ρ => some ρ
  | t :: ts, x :: xs, ρ => (t x ρ).bind (gTs ts xs)
  | _, _, _ => none
def gTp (ts : List GT) : GT := fun x ρ => match x with
  | .tup xs => if xs.length = ts.length then gTs ts xs ρ else none
  | _ => none
def LGs (K : Fg) (pr : Nat → Bool) (ts : List GT) : TGs := fun vs σ H Q => ∃ ρ F xs ρ', RS K σ ρ F H ∧ Reps K F xs vs ∧ gTs ts xs ρ = some ρ' ∧
  ∀ σ' F' H', RS K σ' ρ' F' H' → Gr σ ρ F H σ' ρ' F' H' → (∀ j : Nat, pr j = true → σ'[j]? = σ[j]?) → Q σ' H'
theorem LGs.nil {vs : List V} {σ : L2.St} {H : Hp} {Q : L2.St → Hp → Prop} (h : LGs K pr [] vs σ H Q) : gNil vs σ H Q := by
  obtain ⟨ρ, F, xs, ρ', rs, r, e, q⟩ := h
  cases r with
  | nil =>
    cases e
    exact ⟨rfl, q _ _ _ rs Gr.refl fun _ _ => rfl⟩
  | cons a b => cases e
theorem LGs.cons {t : GT} {ts : List GT} {vs : List V} {σ : L2.St} {H : Hp} {Q : L2.St → Hp → Prop} (h : LGs K pr (t :: ts) vs σ H Q) : gCons (LG K pr t) (LGs K pr ts) vs σ H Q := by
  obtain ⟨ρ, F, xs, ρ', rs, r, e, q⟩ := h
  cases r with
  | nil => cases e
  | @cons d v ds vs a b =>
    have e : (t d ρ).bind (gTs ts ds) = some ρ' := e
    cases z : t d ρ with
    | none => rw [z] at e; cases e
    | some ρ1 =>
      rw [z] at e
      exact ⟨v, vs, rfl, ρ, F, d, ρ1, rs, a, z, fun σ1 F1 H1 rs1 g1 p1 => ⟨ρ1, F1, ds, ρ', rs1, b.sub g1.mono, e, fun σ2 F2 H2 rs2 g2 p2 => q σ2 F2 H2 rs2 (g1.trans g2) fun j hj => (p2 j hj).trans (p1 j hj)⟩⟩
theorem LG.tup {ts : List GT} {n : Nat} (hn : ts.length = n) {σ : L2.St} {H : Hp} {Q : L2.St → Hp → Prop} (h : LG K pr (gTp ts) v σ H Q) : gTup K n (LGs K pr ts) v σ H Q := by
  obtain ⟨ρ, F, x, ρ', rs, r, e, q⟩ := h
  unfold gTp at e
  cases r with
  | @tup a xs ds h1 h2 =>
    dsimp only at e
    split at e
    · rename_i hl
      exact ⟨a, xs, rfl, SqT.sub rs.sub h1, by rw [← h2.length, hl, hn], ρ, F, ds, ρ', rs, h2, e, q⟩
    · cases e
  | _ => cases e
def forL (t : GT) (g : DS) : List D → DS
  | [], ρ => some (.nx, ρ)
  | x :: xs, ρ => match t x ρ with
    | none => none
    | some ρ1 => match g ρ1 with
      | none => none
      | some (.nx, ρ2) => forL t g xs ρ2
      | some (.ct, ρ2) => forL t g xs ρ2
      | some (.bk, ρ2) => some (.nx, ρ2)
      | some (.rt r, ρ2) => some (.rt r, ρ2)
      | some (.ex x, ρ2) => some (.ex x, ρ2)
def sFor (it : Dx (List D)) (t : GT) (g : DS) : DS := bS it fun xs => forL t g xs
theorem LS.fors {it : Dx (List D)} {t : GT} {D0 : Ends} {σ : L2.St} {H : Hp} (h : LS K mg W pr (sFor it t g) D0 σ H) : tFor (LI K mg W it) (LG K pr t) (LS K mg W pr g) D0 σ H := by
  obtain ⟨ρ, F, c, ρ', rs, e, q⟩ := h
  unfold sFor bS at e
  cases z : it ρ with
  | none => rw [z] at e; cases e
  | some w =>
    obtain ⟨ri, ρ1⟩ := w
    rw [z] at e
    cases ri with
    | error x =>
      cases e
      exact ⟨ρ, F, .error x, _, rs, z, fun cls d F' H' rs' g' xr => q σ F' H' rs' g' (fun _ _ => rfl) cls d xr⟩
    | ok xs =>
      dsimp only at e
      refine ⟨ρ, F, .ok xs, ρ1, rs, z, fun F1 H1 J rs1 gr1 gv => ?_⟩
      refine ⟨fun i m σ2 H2 => m = xs.length - i ∧ i ≤ xs.length ∧ ∃ ρ2 F2, RS K σ2 ρ2 F2 H2 ∧ Gr σ ρ F H σ2 ρ2 F2 H2 ∧ Sub F1 F2 ∧ (∀ j : Nat, pr j = true → σ2[j]? = σ[j]?) ∧ forL t g (xs.drop i) ρ2 = some (c, ρ'),
        ⟨xs.length, rfl, Nat.zero_le _, ρ1, F1, rs1, gr1, Sub.refl, fun _ _ => rfl, e⟩, ?_⟩
      rintro i m σ2 H2 ⟨rfl, hi, ρ2, F2, rs2, gr2, sb, p2, e2⟩
      have q2 := q.shift gr2 p2
      obtain ⟨g1, g2⟩ := gv i F2 H2 sb rs2.sub
      by_cases hlt : i < xs.length
      · obtain ⟨hgo, hy⟩ := g2 xs[i] (by simp [hlt])
        rw [List.drop_eq_getElem_cons hlt] at e2
        unfold forL at e2
        cases y : t xs[i] ρ2 with
        | none => rw [y] at e2; cases e2
        | some ρ3 =>
          rw [y] at e2
          dsimp only at e2
          refine .inr ⟨hgo, fun σ5 H5 => ∃ ρ5 F5, RS K σ5 ρ5 F5 H5 ∧ Gr σ ρ F H σ5 ρ5 F5 H5 ∧ Sub F1 F5 ∧ (∀ j : Nat, pr j = true → σ5[j]? = σ[j]?) ∧ forL t g (xs.drop (i + 1)) ρ5 = some (c, ρ'),
            fun σ5 H5 w => ⟨xs.length - (i + 1), by omega, rfl, hlt, w⟩, fun v H3 hv => ?_⟩
          obtain ⟨F3, stp, rp⟩ := hy v H3 hv
          obtain ⟨rs3, gr3⟩ := stp.ok rs2
          refine ⟨ρ2, F3, xs[i], ρ3, rs3, rp, y, fun σ4 F4 H4 rs4 gr4 p4 => ?_⟩
          have gr24 := gr3.trans gr4
          have q4 := q2.shift gr24 p4
          have sb4 : Sub F1 F4 := sb.trans gr24.mono
          cases u : g ρ3 with
          | none => rw [u] at e2; cases e2
          | some w =>
            obtain ⟨c2, ρ4⟩ := w
            rw [u] at e2
            refine ⟨ρ3, F4, c2, ρ4, rs4, u, ?_⟩
            cases c2 with
            | nx => exact fun σ5 F5 H5 rs5 gr5 p5 => ⟨ρ4, F5, rs5, gr2.trans (gr24.trans gr5), sb4.trans gr5.mono, fun j hj => (p5 j hj).trans ((p4 j hj).trans (p2 j hj)), e2⟩
            | ct => exact fun σ5 F5 H5 rs5 gr5 p5 => ⟨ρ4, F5, rs5, gr2.trans (gr24.trans gr5), sb4.trans gr5.mono, fun j hj => (p5 j hj).trans ((p4 j hj).trans (p2 j hj)), e2⟩
            | bk => cases e2; exact q4
            | rt r => cases e2; exact q4
            | ex x => cases e2; exact q4
      · have ei : i = xs.length := by omega
        subst ei
        rw [List.drop_length] at e2
        cases e2
        exact .inl ⟨g1 (Nat.le_refl _), q2 σ2 F2 H2 rs2 Gr.refl fun _ _ => rfl⟩
theorem ps_forD {X : Cx} {tg iter : Expr} {b : List Stmt} {pos : Pos} {it : Dx (List D)} {t : GT} (hp : PassesOwn (model X.prog X.w) X.A X.env X.xe) (hc : X.calm = true) (hi : PI X tg iter (LI X.K X.mg W it)) (hg : PG X tg (LG X.K pr t)) (hb : PSs X b (LS X.K X.mg W pr g))
    (hs : ∀ x, foldedSetIterable iter X.env x = pure x := by intro _; rfl) : PS X (.For tg iter b [] pos) (LS X.K X.mg W pr (sFor it t g)) := PS.imp (ps_for hp hc hi hg hb hs) fun _ _ _ h => LS.fors h
end

/-! ### a def's body -/
def outs : List Bool → List S → Env → Option (List S)
  | [], _, _ => some []
  | b :: bs, s :: ss, o :: ρ => match (if b then o else some s), outs bs ss ρ with
    | some s', some r => some (s' :: r)
    | _, _ => none
  | _, _, _ => none
/-- an unprotected parameter holds data -/
def okP : List Bool → List S → Bool
  | [], [] => true
  | true :: bs, _ :: ss => okP bs ss
  | false :: bs, .d _ :: ss => okP bs ss
  | _, _ => false
/-- what a def does: pm says which parameters it leaves bound as they were, N the number of its names -/
def fnF (pm : List Bool) (N : Nat) (g : DS) : FD := fun ss => if okP pm ss = true then (match g (sl ss ++ List.replicate (N - pm.length) none) with
  | some (.nx, ρ) => (outs pm ss ρ).map fun o => (.ok (.d .non), o)
  | some (.rt (.d x), ρ) => (outs pm ss ρ).map fun o => (.ok (.d x), o)
  | some (.rt (.o x), ρ) => (outs pm ss ρ).map fun o => (.ok (.o x), o)
  | some (.ex x, ρ) => (outs pm ss ρ).map fun o => (.error x, o)
  | _ => none) else none
def prot (pm : List Bool) (j : Nat) : Bool := match pm[j]? with
  | some b => b
  | none => false
theorem okP_len : ∀ {pm : List Bool} {ss : List S}, okP pm ss = true → ss.length = pm.length
  | [], [], _ => rfl
  | [], _ :: _, h => by cases h
  | true :: bs, [], h => by cases h
  | false :: bs, [], h => by cases h
  | true :: bs, _ :: ss, h => congrArg (· + 1) (okP_len (pm := bs) h)
  | false :: bs, .d _ :: ss, h => congrArg (· + 1) (okP_len (pm := bs) h)
  | false :: bs, .o _ :: ss, h => by cases h
theorem okP_dat : ∀ {pm : List Bool} {ss : List S} {j : Nat} {s : S}, okP pm ss = true → pm[j]? = some false → ss[j]? = some s → ∃ x, s = .d x
  | [], _, _, _, _, h, _ => by simp at h
  | true :: bs, [], _, _, h, _, _ => by cases h
  | false :: bs, [], _, _, h, _, _ => by cases h
  | true :: bs, t :: ss, 0, s, _, h, _ => by simp at h
  | true :: bs, t :: ss, j + 1, s, h, h1, h2 => okP_dat (pm := bs) (j := j) h (by simpa using h1) (by simpa using h2)
  | false :: bs, .d x :: ss, 0, s, _, _, h => by
    simp at h
    exact ⟨x, h.symm⟩
  | false :: bs, .d x :: ss, j + 1, s, h, h1, h2 => okP_dat (pm := bs) (j := j) h (by simpa using h1) (by simpa using h2)
  | false :: bs, .o _ :: ss, _, _, h, _, _ => by cases h
theorem outs_get : ∀ {pm : List Bool} {ss : List S} {ρ : Env} {os : List S}, outs pm ss ρ = some os → os.length = pm.length ∧ ∀ (j : Nat) (o : S), os[j]? = some o → (pm[j]? = some true ∧ gt ρ j = some o) ∨ (pm[j]? = some false ∧ ss[j]? = some o)
  | [], ss, ρ, os, e => by
    cases e
    exact ⟨rfl, fun j o h => by simp at h⟩
  | b :: bs, [], ρ, os, e => by cases e
  | b :: bs, s :: ss, [], os, e => by cases e
  | b :: bs, s :: ss, o :: ρ, os, e => by
    unfold outs at e
    cases z1 : (if b then o else some s) with
    | none => rw [z1] at e; cases e
    | some s' =>
      cases z2 : outs bs ss ρ with
      | none => rw [z1, z2] at e; cases e
      | some r =>
        rw [z1, z2] at e
        cases e
        obtain ⟨l, h⟩ := outs_get z2
        refine ⟨congrArg (· + 1) l, fun j p hj => ?_⟩
        cases j with
        | zero =>
          simp at hj
          subst hj
          cases b with
          | true => exact .inl ⟨rfl, z1⟩
          | false => exact .inr ⟨rfl, z1⟩
        | succ j =>
          have := h j p (by simpa using hj)
          simpa [gt] using this
theorem gt_app {ss : List S} {m j : Nat} {s : S} (h : gt (sl ss ++ List.replicate m none) j = some s) : ss[j]? = some s := by
  induction ss generalizing j with
  | nil =>
    exfalso
    have : ∀ (m j : Nat), gt (List.replicate m none) j = none := by
      intro m
      induction m with
      | zero => intro j; rfl
      | succ m ih =>
        intro j
        cases j with
        | zero => rfl
        | succ j => exact ih j
    have h : gt (List.replicate m none) j = some s := h
    rw [this] at h
    cases h
  | cons a r ih =>
    cases j with
    | zero => simpa [sl, gt] using h
    | succ j =>
      have := ih (j := j) (by simpa [sl, gt] using h)
      simpa using this
theorem start_st {N : List Str} {vs : List V} {j : Nat} {v : V} (h : (st vs)[j]? = some (some v)) : (L2.start N vs)[j]? = some (some v) := by
  have h1 := st_get.mp h
  have hl : j < vs.length := (List.getElem?_eq_some_iff.mp h1).1
  unfold L2.start
  rw [List.getElem?_append_left (by rw [List.length_map]; exact hl)]
  exact h
section
variable {P : Program} {w : World} {K : Fg} {mg : MG} {base : Heap} {x qual : Str} {params : Arguments} {body : List Stmt} {scope : Scope} {dvs : List V} {kws : List (Str × V)} {f : Addr} {fd : FuncData}
/-- THE RULE: a def keeps the promise that it is its function, where its body's function is g -/
theorem fnD {N ps : List Str} {k : Nat} {pm : List Bool} {g : DS} (Fn : FunD K x qual params body scope dvs kws f fd) (S : FnScope N ps scope) (hpm : pm.length = ps.length)
    (hbody : ∀ (cdv : Value) (A : Around) (outer : List PySem.Env) (s : Shared) (H : Hp) (E : XK) (W : WX), Room k (cxOf (L2.CX P w) P w K mg base N qual scope f cdv A outer s H E).A → A.guards = some [] →
      Takes (cxOf (L2.CX P w) P w K mg base N qual scope f cdv A outer s H E) W → PassesOwn (model P w) (cxOf (L2.CX P w) P w K mg base N qual scope f cdv A outer s H E).A (cxOf (L2.CX P w) P w K mg base N qual scope f cdv A outer s H E).env (cxOf (L2.CX P w) P w K mg base N qual scope f cdv A outer s H E).xe →
      PSs (cxOf (L2.CX P w) P w K mg base N qual scope f cdv A outer s H E) body (LS K mg W (prot pm) g)) : FnG P w K mg base (k + 1) f fd ps (spD K mg pm.length (fnF pm N.length g)) := by
  refine fn_G Fn S (spD_len hpm) fun cdv A outer s H vs Q E hr hG hsp => ?_
  refine ⟨_, hbody cdv A outer s H E (fun cls d _ H => E cls d H) hr hG (takes_of rfl rfl rfl rfl) (passes_of rfl), ?_⟩
  obtain ⟨ss, F, r, os, rs, hl, e, q⟩ := hsp
  have hNp : ps.length ≤ N.length := by
    have := congrArg List.length S.pre
    rw [List.length_take] at this
    omega
  have hvs : vs.length = ss.length := by
    have := rs.len
    unfold sl st at this
    rw [List.length_map, List.length_map] at this
    omega
  unfold fnF at e
  split at e
  · rename_i hok
    have rs0 : RS K (L2.start N vs) (sl ss ++ List.replicate (N.length - pm.length) none) F H := by
      refine ⟨rs.sub, ?_, fun j y h => ?_, fun j y h => ?_, fun i j y z p h1 h2 h3 h4 => ?_⟩
      · unfold sl L2.start
        simp only [List.length_append, List.length_map, List.length_replicate]
        omega
      · obtain ⟨v, e1, r1⟩ := rs.dat j y (by rw [gt_sl]; exact gt_app h)
        exact ⟨v, start_st e1, r1⟩
      · obtain ⟨v, e1, r1⟩ := rs.own j y (by rw [gt_sl]; exact gt_app h)
        exact ⟨v, start_st e1, r1⟩
      · have a1 := gt_app h1
        have a2 := gt_app h2
        obtain ⟨p1, b1, _⟩ := rs.own i y (by rw [gt_sl]; exact a1)
        obtain ⟨p2, b2, _⟩ := rs.own j z (by rw [gt_sl]; exact a2)
        have c1 := start_st (N := N) b1
        have c2 := start_st (N := N) b2
        rw [h3] at c1
        rw [h4] at c2
        cases c1
        cases c2
        exact rs.inj i j y z p (by rw [gt_sl]; exact a1) (by rw [gt_sl]; exact a2) b1 b2
    have ow0 : ∀ p, Ow (sl ss ++ List.replicate (N.length - pm.length) none) (L2.start N vs) p → Ow (sl ss) (st vs) p := by
      rintro p ⟨j, y, h1, h2⟩
      have a1 := gt_app h1
      obtain ⟨p1, b1, _⟩ := rs.own j y (by rw [gt_sl]; exact a1)
      have c1 := start_st (N := N) b1
      rw [h2] at c1
      cases c1
      exact ⟨j, y, by rw [gt_sl]; exact a1, b1⟩
    have ow1 : ∀ p, Ow (sl ss) (st vs) p → Ow (sl ss ++ List.replicate (N.length - pm.length) none) (L2.start N vs) p := by
      rintro p ⟨j, y, h1, h2⟩
      refine ⟨j, y, ?_, start_st h2⟩
      clear e q hok
      have hj : j < (sl ss).length := gt_lt h1
      have : ∀ (ρ τ : Env) (j : Nat), j < ρ.length → gt (ρ ++ τ) j = gt ρ j := by
        intro ρ
        induction ρ with
        | nil => intro τ j h; simp at h
        | cons a r ih =>
          intro τ j h
          cases j with
          | zero => rfl
          | succ j => exact ih τ j (by simpa using h)
      rw [this _ _ _ hj]
      exact h1
    -- the world at the end
    have fin : ∀ {σ' : L2.St} {ρ' : Env} {F' H' : Hp} {os : List Dn.S}, outs pm ss ρ' = some os → RS K σ' ρ' F' H' → Gr (L2.start N vs) (sl ss ++ List.replicate (N.length - pm.length) none) F H σ' ρ' F' H' → (∀ j : Nat, prot pm j = true → σ'[j]? = (L2.start N vs)[j]?) →
        RS K (st vs) (sl os) F' H' ∧ Gr (st vs) (sl ss) F H (st vs) (sl os) F' H' ∧ ∀ p, Ow (sl os) (st vs) p → Ow ρ' σ' p := by
      intro σ' ρ' F' H' os eo rs' gr hp
      obtain ⟨lo, ho⟩ := outs_get eo
      have lss := okP_len hok
      have key : ∀ (j : Nat) (o : Dn.S), gt (sl os) j = some o → (gt ρ' j = some o ∧ ∀ v, σ'[j]? = some (some v) → (st vs)[j]? = some (some v)) ∨ ∃ z, o = .d z ∧ gt (sl ss) j = some (.d z) := by
        intro j o h
        rw [gt_sl] at h
        rcases ho j o h with ⟨h1, h2⟩ | ⟨h1, h2⟩
        · refine .inl ⟨h2, fun v hv => ?_⟩
          rw [hp j (by unfold prot; rw [h1])] at hv
          have hj : j < vs.length := by
            have := (List.getElem?_eq_some_iff.mp h1).1
            omega
          unfold L2.start at hv
          rw [List.getElem?_append_left (by rw [List.length_map]; exact hj)] at hv
          exact hv
        · obtain ⟨z, rfl⟩ := okP_dat hok h1 h2
          exact .inr ⟨z, rfl, by rw [gt_sl]; exact h2⟩
      have owf : ∀ p, Ow (sl os) (st vs) p → Ow ρ' σ' p := by
        rintro p ⟨j, y, h1, h2⟩
        rcases key j _ h1 with ⟨h3, h4⟩ | ⟨z, h3, _⟩
        · obtain ⟨p', e1, _⟩ := rs'.own j y h3
          have := h4 _ e1
          rw [h2] at this
          cases this
          exact ⟨j, y, h3, e1⟩
        · cases h3
      refine ⟨⟨rs'.sub, ?_, fun j y h => ?_, fun j y h => ?_, fun i j y z p h1 h2 h3 h4 => ?_⟩, ⟨fun a ha hn => gr.keep a ha fun z => hn (ow0 a z), gr.live, gr.mono, fun a ha hn => gr.nofz a ha fun z => hn (ow0 a z), fun p h => ?_⟩, owf⟩
      · unfold sl st
        rw [List.length_map, List.length_map]
        omega
      · rcases key j _ h with ⟨h3, h4⟩ | ⟨z, h3, h5⟩
        · obtain ⟨v, e1, r1⟩ := rs'.dat j y h3
          exact ⟨v, h4 v e1, r1⟩
        · cases h3
          obtain ⟨v, e1, r1⟩ := rs.dat j _ h5
          exact ⟨v, e1, r1.sub gr.mono⟩
      · rcases key j _ h with ⟨h3, h4⟩ | ⟨z, h3, h5⟩
        · obtain ⟨p, e1, r1⟩ := rs'.own j y h3
          exact ⟨p, h4 _ e1, r1⟩
        · cases h3
      · rcases key i _ h1 with ⟨a1, a2⟩ | ⟨_, a1, _⟩
        · rcases key j _ h2 with ⟨b1, b2⟩ | ⟨_, b1, _⟩
          · obtain ⟨p1, c1, _⟩ := rs'.own i y a1
            obtain ⟨p2, c2, _⟩ := rs'.own j z b1
            have d1 := a2 _ c1
            have d2 := b2 _ c2
            rw [h3] at d1
            rw [h4] at d2
            cases d1
            cases d2
            exact rs'.inj i j y z p a1 b1 c1 c2
          · cases b1
        · cases a1
      · rcases gr.sub p (owf p h) with z | z
        · exact .inl (ow0 p z)
        · exact .inr z
    cases z : g (sl ss ++ List.replicate (N.length - pm.length) none) with
    | none => rw [z] at e; cases e
    | some y =>
      obtain ⟨c, ρ'⟩ := y
      rw [z] at e
      refine ⟨_, F, c, ρ', rs0, z, fun σ' F' H' rs' gr hp => ?_⟩
      cases c with
      | bk => cases e
      | ct => cases e
      | nx =>
        dsimp only at e
        cases eo : outs pm ss ρ' with
        | none => rw [eo] at e; cases e
        | some o =>
          rw [eo] at e
          cases e
          obtain ⟨a1, a2, _⟩ := fin eo rs' gr hp
          exact q F' H' a1 a2 .non .non
      | ex x =>
        dsimp only at e
        cases eo : outs pm ss ρ' with
        | none => rw [eo] at e; cases e
        | some o =>
          rw [eo] at e
          cases e
          obtain ⟨a1, a2, _⟩ := fin eo rs' gr hp
          exact q F' H' a1 a2
      | rt r =>
        cases r with
        | s i => cases e
        | d x =>
          dsimp only at e
          cases eo : outs pm ss ρ' with
          | none => rw [eo] at e; cases e
          | some o =>
            rw [eo] at e
            cases e
            obtain ⟨a1, a2, _⟩ := fin eo rs' gr hp
            exact fun v rr => q F' H' a1 a2 v rr
        | o x =>
          dsimp only at e
          cases eo : outs pm ss ρ' with
          | none => rw [eo] at e; cases e
          | some o =>
            rw [eo] at e
            cases e
            obtain ⟨a1, a2, a3⟩ := fin eo rs' gr hp
            refine fun v rr => q F' H' a1 a2 v ?_
            obtain ⟨p, rfl, b1, b2, b3⟩ := rr
            exact ⟨p, rfl, b1, fun z => b2 (a3 p z), b3⟩
  · cases e
end
end Dn
end

section
set_option Elab.async false
set_option linter.all false
set_option maxRecDepth 100000
set_option maxHeartbeats 2000000
/-! Dn: what is walked; comprehensions. -/
namespace Dn
open PySem PySem.Spec L2
section
variable {K : Fg} {mg : MG} {W : WX} {pr : Nat → Bool} {σ σ1 σ' : L2.St} {ρ ρ1 ρ' : Env} {F F1 F' H H1 H' H0 : Hp} {v u : V} {f fa fb : DE} {x y : D} {g g1 g2 : DS} {c : Ctl} {D0 : Ends}
theorem PI.imp {X : Cx} {tg e : Expr} {t t' : TI} (h : PI X tg e t) (i : ∀ σ H R0, t' σ H R0 → t σ H R0) : PI X tg e t' := ⟨fun pins s σ H R0 I q => h.run pins s σ H R0 I (i σ H R0 q)⟩
/-! ### lists and tuples -/
theorem gives_list {a : Addr} {ds : List D} {xs : List V} {F0 : Hp} (h : F0 a = some (.lst xs)) (r : Reps K F0 ds xs) : Gives K (Itl K a) ds F0 := by
  intro i F H s1 s2
  have q : H a = some (.lst xs) := s2 _ _ (s1 _ _ h)
  refine ⟨fun hl => ⟨xs, SqL.of q, by rw [← r.length]; exact hl⟩, fun d hd => ?_⟩
  obtain ⟨v, hv, rv⟩ := r.get hd
  exact ⟨⟨xs, v, SqL.of q, hv⟩, fun w H' hw => ⟨F, .inl ⟨rfl, hw.1⟩, by
    have := hw.2 xs (SqL.of q)
    rw [hv] at this
    cases this
    exact rv.sub s1⟩⟩
theorem gives_src {a : Addr} {ns : List Int} {F0 : Hp} (h : SqL K F0 a (ns.map V.int)) : Gives K (Itl K a) (ns.map .int) F0 := by
  intro i F H s1 s2
  have q : SqL K H a (ns.map V.int) := SqL.sub s2 (SqL.sub s1 h)
  refine ⟨fun hl => ⟨_, q, by rw [List.length_map] at hl ⊢; exact hl⟩, fun d hd => ?_⟩
  obtain ⟨v, hv, rv⟩ := (Reps.nums (K := K) (F := F) ns).get hd
  exact ⟨⟨_, v, q, hv⟩, fun w H' hw => ⟨F, .inl ⟨rfl, hw.1⟩, by
    have := hw.2 _ q
    rw [hv] at this
    cases this
    exact rv⟩⟩
theorem gives_tup {a : Addr} {ds : List D} {xs : List V} {F0 : Hp} (h : SqT K F0 a xs) (r : Reps K F0 ds xs) : Gives K (Itt K a) ds F0 := by
  intro i F H s1 s2
  have q : SqT K H a xs := SqT.sub s2 (SqT.sub s1 h)
  refine ⟨fun hl => ⟨xs, q, by rw [← r.length]; exact hl⟩, fun d hd => ?_⟩
  obtain ⟨v, hv, rv⟩ := r.get hd
  exact ⟨⟨xs, v, q, hv⟩, fun w H' hw => ⟨F, .inl ⟨rfl, hw.1⟩, by
    have := hw.2 xs q
    rw [hv] at this
    cases this
    exact rv.sub s1⟩⟩
def iSeq (K : Fg) (tl : TE) : TI := fun σ H R0 => tl σ H fun x H1 => ∃ a, x = .ref a ∧ (((∃ xs, SqL K H1 a xs) ∧ R0 (Itl K a) H1) ∨ ((∃ xs, SqT K H1 a xs) ∧ R0 (Itt K a) H1))
theorem pi_seq {X : Cx} {tg l : Expr} {tl : TE} (hl : PE X l tl) : PI X tg l (iSeq X.K tl) := by
  refine ⟨fun pins s σ H R0 I0 h0 => ?_⟩
  refine thn (hl.run pins s σ H _ I0 h0) fun v s1 ⟨x, H1, I1, r1, q1⟩ => ?_
  obtain ⟨a, rfl, q1⟩ := q1
  cases r1
  have fr : ∀ b ∈ [s1.heap.objs.size], FpOk X pins H1 b := fun b hb => by
    obtain rfl : b = s1.heap.objs.size := by simpa using hb
    exact I1.fpOk (Nat.le_refl _) (I1.hok.fresh (Nat.le_refl _))
  rcases q1 with ⟨⟨xs, hq⟩, q⟩ | ⟨⟨xs, hq⟩, q⟩
  · obtain ⟨its, rv, p, hz⟩ := I1.list hq
    exact wpAny_pyIter_list p.isList ⟨s1.heap.objs.size, [s1.heap.objs.size], _, _, H1, rfl, I1.kept (t' := s1.toks) fun b o e => Heap.get?_push_of_some _ e, turn_list a _, ⟨_, Heap.get?_push_size _ rfl, rfl, rfl⟩, fr, q⟩
  · obtain ⟨its, rv, p, hz⟩ := I1.tuple hq
    exact wpAny_pyIter_tuple (show s1.heap.IsTuple a its.toArray from p) ⟨s1.heap.objs.size, [s1.heap.objs.size], _, _, H1, rfl, I1.kept (t' := s1.toks) fun b o e => Heap.get?_push_of_some _ e, turn_tuple a _, ⟨_, Heap.get?_push_size _ rfl, rfl, rfl⟩, fr, q⟩
def seqOf : D → Option (List D)
  | .lst ds => some ds
  | .tup ds => some ds
  | .src ns => some (ns.map .int)
  | _ => none
/-- a sequence, as data, then k of its items -/
def itSeq (f : DE) : Dx (List D) := bE f fun a => fun ρ => match toD ρ (nrm a) with
  | some (x, ρ1) => (seqOf x).map fun ds => (.ok ds, ρ1)
  | none => none
theorem LI.seq {R0 : It → Hp → Prop} (h : LI K mg W (itSeq f) σ H R0) : iSeq K (LE K mg W f) σ H R0 := by
  obtain ⟨ρ, F, r, ρ', rs, e, q⟩ := h
  refine LE.opnd (k := fun a => fun ρ => match toD ρ a with
    | some (x, ρ1) => (seqOf x).map fun ds => (.ok ds, ρ1)
    | none => none) rs e (fun x hx => by subst hx; exact q) fun a v ρ1 F1 H1 rs1 g1 ro e1 => ?_
  cases ea : toD ρ1 a with
  | none => rw [ea] at e1; cases e1
  | some z =>
    obtain ⟨x, ρ2⟩ := z
    rw [ea] at e1
    obtain ⟨F2, rs2, g2, rp⟩ := toD_ok rs1 ro ea
    dsimp only at e1
    cases es : seqOf x with
    | none => rw [es] at e1; cases e1
    | some ds =>
      rw [es] at e1
      cases e1
      cases rp with
      | tup h1 h2 =>
        cases es
        exact ⟨_, rfl, .inr ⟨⟨_, SqT.sub rs2.sub h1⟩, q F2 H1 _ rs2 (g1.trans g2) (gives_tup h1 h2)⟩⟩
      | lst h1 h2 =>
        cases es
        exact ⟨_, rfl, .inl ⟨⟨_, SqL.of (rs2.sub _ _ h1)⟩, q F2 H1 _ rs2 (g1.trans g2) (gives_list h1 h2)⟩⟩
      | src h1 =>
        cases es
        exact ⟨_, rfl, .inl ⟨⟨_, SqL.sub rs2.sub h1⟩, q F2 H1 _ rs2 (g1.trans g2) (gives_src h1)⟩⟩
      | _ => cases es
theorem pi_seqD {X : Cx} {tg l : Expr} (hl : PE X l (LE X.K X.mg W f)) : PI X tg l (LI X.K X.mg W (itSeq f)) := PI.imp (pi_seq hl) fun _ _ _ h => LI.seq h
/-! ### ranges -/
def rng (lo : Int) (n : Nat) : List D := (List.range n).map fun i => .int (lo + (i : Nat))
theorem gives_rng {lo : Int} {n : Nat} {F0 : Hp} : Gives K (Itr lo n) (rng lo n) F0 := by
  intro i F H _ _
  have hl : (rng lo n).length = n := by simp [rng]
  refine ⟨fun h => by rw [hl] at h; exact h, fun d hd => ?_⟩
  have hi : i < n := by
    have := (List.getElem?_eq_some_iff.mp hd).1
    omega
  unfold rng at hd
  rw [List.getElem?_map, List.getElem?_range hi] at hd
  cases hd
  exact ⟨hi, fun v H' hv => ⟨F, .inl ⟨rfl, hv.1⟩, by rw [hv.2]; exact .int _⟩⟩
/-- operands, then their items -/
def itN (fs : List DE) (k : List D → Option (List D)) : Dx (List D) := bE (eA fs) fun as => fun ρ => match (pks ρ as).bind k with
  | some ds => some (.ok ds, ρ)
  | none => none
theorem LI.ops {fs : List DE} {k : List D → Option (List D)} {R0 : It → Hp → Prop} {G : List V → Hp → Prop} (h : LI K mg W (itN fs k) σ H R0)
    (hop : ∀ xs vs ds ρ F H1, RS K σ ρ F H1 → PKs K F H1 xs vs → k xs = some ds → (∀ J, Gives K J ds F → R0 J H1) → G vs H1) : LA K mg W fs σ H G := by
  obtain ⟨ρ, F, r, ρ', rs, e, q⟩ := h
  refine LA.bind rs e (fun x hx => by subst hx; exact q) fun as vs ρ1 F1 H1 rs1 g1 ro e1 => ?_
  cases ea : pks ρ1 as with
  | none => simp [ea] at e1
  | some xs =>
    cases eb : k xs with
    | none => simp [ea, eb] at e1
    | some ds =>
      simp only [ea, eb, Option.bind_some] at e1
      cases e1
      exact hop xs vs ds _ F1 H1 rs1 (pks_ok rs1 ro ea) eb fun J gv => q F1 H1 J rs1 g1 gv
def kRng1 : List D → Option (List D)
  | [.int j] => if -4611686018427387904 ≤ j ∧ j < 4611686018427387904 then some (rng 0 j.toNat) else none
  | _ => none
theorem pi_rng1D {X : Cx} {tg a : Expr} {p pos : Pos} (hg : Gl X "range") (hm : X.mg "range" = none) (ha : PE X a (LE X.K X.mg W f)) (hs : starEach [a] X.env = [(false, eval a X.env)] := by rfl)
    (hs2 : starEach (a :: []) X.env = (false, eval a X.env) :: starEach [] X.env := by rfl) :
    PI X tg (.Call (.Name "range" p) [a] [] pos) (LI X.K X.mg W (itN [f] kRng1)) :=
  PI.imp (pi_range1 hg hm (PA.imp (pa_cons ha (PA.imp pa_nil fun _ _ _ h => LA.nil h) hs2) fun _ _ _ h => LA.cons h) hs) fun σ H R0 h => LI.ops h fun xs vs ds ρ F H1 rs pk e q => by
    unfold kRng1 at e
    split at e
    · split at e
      · rename_i hc
        cases e
        cases pk with
        | cons h1 h2 =>
          cases h2
          cases h1.int
          exact ⟨_, rfl, by have := hc.1; omega, by have := hc.2; omega, q _ gives_rng⟩
      · cases e
    · cases e
def kRng2 : List D → Option (List D)
  | [.int i, .int j] => if -4611686018427387904 ≤ i ∧ i < 4611686018427387904 ∧ -4611686018427387904 ≤ j ∧ j < 4611686018427387904 then some (rng i (j - i).toNat) else none
  | _ => none
theorem pi_rng2D {X : Cx} {tg a b : Expr} {p pos : Pos} (hg : Gl X "range") (hm : X.mg "range" = none) (ha : PE X a (LE X.K X.mg W fa)) (hb : PE X b (LE X.K X.mg W fb)) (hs : starEach [a, b] X.env = [(false, eval a X.env), (false, eval b X.env)] := by rfl)
    (hs2 : starEach [b] X.env = [(false, eval b X.env)] := by rfl) (hs3 : starEach (a :: [b]) X.env = (false, eval a X.env) :: starEach [b] X.env := by rfl) (hs4 : starEach (b :: []) X.env = (false, eval b X.env) :: starEach [] X.env := by rfl) :
    PI X tg (.Call (.Name "range" p) [a, b] [] pos) (LI X.K X.mg W (itN [fa, fb] kRng2)) :=
  PI.imp (pi_range2 hg hm (PA.imp (pa_cons ha (PA.imp (pa_cons hb (PA.imp pa_nil fun _ _ _ h => LA.nil h) hs4) fun _ _ _ h => LA.cons h) hs3) fun _ _ _ h => LA.cons h) hs hs2) fun σ H R0 h => LI.ops h fun xs vs ds ρ F H1 rs pk e q => by
    unfold kRng2 at e
    split at e
    · split at e
      · rename_i hc
        cases e
        cases pk with
        | cons h1 h2 =>
          cases h2 with
          | cons h2 h3 =>
            cases h3
            cases h1.int
            cases h2.int
            exact ⟨_, _, rfl, ⟨by have := hc.1; omega, by have := hc.2.1; omega, by have := hc.2.2.1; omega, by have := hc.2.2.2; omega⟩, q _ gives_rng⟩
      · cases e
    · cases e
/-! ### enumerate, zip -/
def pairs (xs ys : List D) : List D := (xs.zip ys).map fun p => .tup [p.1, p.2]
theorem gives_enum {a : Addr} {ds : List D} {xs : List V} {F0 : Hp} (h : F0 a = some (.lst xs)) (r : Reps K F0 ds xs) : Gives K (Ite K a) (pairs (rng 0 ds.length) ds) F0 := by
  intro i F H s1 s2
  have q : H a = some (.lst xs) := s2 _ _ (s1 _ _ h)
  have hl : (pairs (rng 0 ds.length) ds).length = ds.length := by simp [pairs, rng]
  refine ⟨fun h => ⟨xs, SqL.of q, by rw [← r.length, ← hl]; exact h⟩, fun d hd => ?_⟩
  have hi : i < ds.length := by
    have := (List.getElem?_eq_some_iff.mp hd).1
    omega
  obtain ⟨v, hv, rv⟩ := r.get (List.getElem?_eq_getElem hi)
  have ed : d = .tup [.int ((i : Nat) : Int), ds[i]] := by
    have e1 : (pairs (rng 0 ds.length) ds)[i]? = some (.tup [.int ((i : Nat) : Int), ds[i]]) := by
      have l1 : i < (pairs (rng 0 ds.length) ds).length := by rw [hl]; exact hi
      rw [List.getElem?_eq_getElem l1]
      simp [pairs, rng]
    rw [e1] at hd
    exact (Option.some.inj hd).symm
  subst ed
  refine ⟨⟨xs, v, SqL.of q, hv⟩, fun w H' ⟨T, x, e1, hT, e2, hx⟩ => ?_⟩
  have := hx xs (SqL.of q)
  rw [hv] at this
  cases this
  subst e1
  have fT : F T = none := by
    cases z : F T with
    | none => rfl
    | some o => rw [s2 _ _ z] at hT; cases hT
  have sb : Sub F (upd F T (.tup [.int ((i : Nat) : Int), v])) := fun c u e => by rw [upd_ne (fun z => by rw [z, fT] at e; cases e)]; exact e
  exact ⟨_, .inr ⟨T, _, hT, rfl, e2⟩, .tup (SqT.of upd_same) (.cons (.int _) (.cons (rv.sub (s1.trans sb)) .nil))⟩
def kEnum (x : D) : Option (List D) := match x with
  | .lst ds => some (pairs (rng 0 ds.length) ds)
  | _ => none
/-- one operand, as data, then the items -/
def itD (f : DE) (k : D → Option (List D)) : Dx (List D) := bE f fun a => fun ρ => match toD ρ (nrm a) with
  | some (x, ρ1) => (k x).map fun ds => (.ok ds, ρ1)
  | none => none
theorem LI.dat {k : D → Option (List D)} {R0 : It → Hp → Prop} {G : List V → Hp → Prop} (h : LI K mg W (itD f k) σ H R0)
    (hop : ∀ x v ds ρ F H1, RS K σ ρ F H1 → Rep K F x v → k x = some ds → (∀ J, Gives K J ds F → R0 J H1) → G [v] H1) : LA K mg W [f] σ H G := by
  obtain ⟨ρ, F, r, ρ', rs, e, q⟩ := h
  unfold itD bE at e
  cases ef : f ρ with
  | none => rw [ef] at e; cases e
  | some z =>
    obtain ⟨ra, ρ1⟩ := z
    rw [ef] at e
    cases ra with
    | error x =>
      cases e
      refine ⟨ρ, F, .error x, ρ', rs, ?_, q⟩
      unfold eA bE
      rw [ef]
    | ok a =>
      dsimp only at e
      refine ⟨ρ, F, .ok [nrm a], ρ1, rs, ?_, fun vs F1 H1 rs1 g1 ro => ?_⟩
      · unfold eA bE
        rw [ef]
        rfl
      · cases ro with
        | cons ro rn =>
          cases rn
          cases ea : toD ρ1 (nrm a) with
          | none => rw [ea] at e; cases e
          | some z =>
            obtain ⟨x, ρ2⟩ := z
            rw [ea] at e
            obtain ⟨F2, rs2, g2, rp⟩ := toD_ok rs1 ro ea
            dsimp only at e
            cases es : k x with
            | none => rw [es] at e; cases e
            | some ds =>
              rw [es] at e
              cases e
              exact hop x _ ds _ F2 H1 rs2 rp es fun J gv => q F2 H1 J rs2 (g1.trans g2) gv
theorem pa_one {X : Cx} {a : Expr} (ha : PE X a (LE X.K X.mg W f)) (hs2 : starEach (a :: []) X.env = (false, eval a X.env) :: starEach [] X.env := by rfl) : PA X [a] (LA X.K X.mg W [f]) :=
  PA.imp (pa_cons ha (PA.imp pa_nil fun _ _ _ h => LA.nil h) hs2) fun _ _ _ h => LA.cons h
theorem pi_enumD {X : Cx} {e : Expr} {p pos tpos : Pos} {elts : List Expr} {kk : Nat} (hg : Gl X "enumerate") (hm : X.mg "enumerate" = none) (ha : PE X e (LE X.K X.mg W f)) (hs : starEach [e] X.env = [(false, eval e X.env)] := by rfl)
    (hs2 : starEach (e :: []) X.env = (false, eval e X.env) :: starEach [] X.env := by rfl) : PI X (.Tuple elts kk tpos) (.Call (.Name "enumerate" p) [e] [] pos) (LI X.K X.mg W (itD f kEnum)) :=
  PI.imp (pi_enum hg hm (pa_one ha hs2) hs) fun σ H R0 h => LI.dat h fun x v ds ρ F H1 rs rp e q => by
    cases rp with
    | lst h1 h2 =>
      cases e
      exact ⟨_, _, rfl, SqL.of (rs.sub _ _ h1), q _ (gives_enum h1 h2)⟩
    | _ => cases e

/-! ### comprehensions -/
def wipeE (ρ : Env) : List Nat → Env
  | [] => ρ
  | v :: vs => (wipeE ρ vs).set v none
theorem wipeE_len (ρ : Env) : ∀ vs : List Nat, (wipeE ρ vs).length = ρ.length
  | [] => rfl
  | v :: vs => by unfold wipeE; rw [List.length_set, wipeE_len ρ vs]
theorem wipeE_some {i : Nat} {s : Dn.S} : ∀ {vs : List Nat}, gt (wipeE ρ vs) i = some s → gt ρ i = some s ∧ i ∉ vs
  | [], h => ⟨h, by simp⟩
  | v :: vs, h => by
    unfold wipeE at h
    by_cases q : i = v
    · subst q
      by_cases hl : i < (wipeE ρ vs).length
      · rw [gt_same hl] at h
        cases h
      · rw [List.set_eq_of_length_le (by omega)] at h
        exact absurd (gt_lt h) hl
    · rw [gt_ne q] at h
      obtain ⟨h1, h2⟩ := wipeE_some h
      exact ⟨h1, by simp only [List.mem_cons, not_or]; exact ⟨q, h2⟩⟩
theorem wipe_out' {i : Nat} : ∀ {vs : List Nat}, i ∉ vs → (wipe σ vs)[i]? = σ[i]?
  | [], _ => rfl
  | v :: vs, h => by
    simp only [List.mem_cons, not_or] at h
    unfold wipe
    rw [List.getElem?_set_ne (Ne.symm h.1)]
    exact wipe_out' h.2
/-- forgetting slots, ahead of a turn and behind it -/
theorem wipe_rs {vs : List Nat} (rs : RS K σ1 ρ F H) (e : wipe σ1 vs = wipe σ vs) (hl : σ1.length = σ.length) : RS K σ (wipeE ρ vs) F H ∧ RS K (wipe σ1 vs) (wipeE ρ vs) F H ∧ (∀ p, Ow (wipeE ρ vs) σ p → Ow ρ σ1 p) ∧ ∀ p, Ow (wipeE ρ vs) (wipe σ1 vs) p → Ow ρ σ1 p := by
  have a1 : ∀ i, i ∉ vs → σ[i]? = σ1[i]? := fun i h => by rw [← wipe_out' (σ := σ) h, ← e, wipe_out' h]
  have a2 : ∀ i, i ∉ vs → (wipe σ1 vs)[i]? = σ1[i]? := fun i h => wipe_out' h
  have b : ∀ (i : Nat) (s : Dn.S), gt (wipeE ρ vs) i = some s → gt ρ i = some s ∧ i ∉ vs := fun i s h => wipeE_some h
  have mk : ∀ τ : L2.St, (∀ i, i ∉ vs → τ[i]? = σ1[i]?) → τ.length = σ1.length → RS K τ (wipeE ρ vs) F H ∧ ∀ p, Ow (wipeE ρ vs) τ p → Ow ρ σ1 p := by
    intro τ a hτ
    refine ⟨⟨rs.sub, by rw [wipeE_len, hτ]; exact rs.len, fun i y h => ?_, fun i y h => ?_, fun i k y z p h1 h2 h3 h4 => ?_⟩, ?_⟩
    · obtain ⟨h, n⟩ := b i _ h
      rw [a i n]
      exact rs.dat i y h
    · obtain ⟨h, n⟩ := b i _ h
      rw [a i n]
      exact rs.own i y h
    · obtain ⟨h1, n1⟩ := b i _ h1
      obtain ⟨h2, n2⟩ := b k _ h2
      rw [a i n1] at h3
      rw [a k n2] at h4
      exact rs.inj i k y z p h1 h2 h3 h4
    · rintro p ⟨i, y, h1, h2⟩
      obtain ⟨h1, n1⟩ := b i _ h1
      rw [a i n1] at h2
      exact ⟨i, y, h1, h2⟩
  obtain ⟨m1, m2⟩ := mk σ a1 hl.symm
  obtain ⟨m3, m4⟩ := mk (wipe σ1 vs) a2 (wipe_length _ _)
  exact ⟨m1, m3, m2, m4⟩
def compL (vs : List Nat) (t : GT) (tt : Dx Bool) (e : DE) : List D → List D → Dx (List D)
  | [], acc, ρ => some (.ok acc, ρ)
  | x :: xs, acc, ρ => match t x (wipeE ρ vs) with
    | none => none
    | some ρ1 => match tt ρ1 with
      | some (.ok false, ρ2) => compL vs t tt e xs acc (wipeE ρ2 vs)
      | some (.ok true, ρ2) => (match e ρ2 with
        | some (.ok a, ρ3) => (match toD ρ3 (nrm a) with
          | some (y, ρ4) => if acc.length < sizeLine then compL vs t tt e xs (acc ++ [y]) (wipeE ρ4 vs) else none
          | none => none)
        | _ => none)
      | _ => none
def xLc (it : Dx (List D)) (vs : List Nat) (t : GT) (tt : Dx Bool) (e : DE) : DE := bE it fun xs => bE (compL vs t tt e xs []) fun acc => rE (.o (.lst acc))
abbrev noX : WX := fun _ _ _ _ => False
def tLT (K : Fg) (mg : MG) (tt : Dx Bool) : TT := LT K mg noX tt
/-- D, which is no one's, is written -/
theorem touch {p : Addr} {o : HO} (rs : RS K σ ρ F H) (hf : F p = none) (ho : ¬ Ow ρ σ p) : RS K σ ρ F (upd H p o) := by
  refine ⟨fun a u e => ?_, rs.len, rs.dat, fun i y h => ?_, rs.inj⟩
  · rw [upd_ne (fun z => by rw [z, hf] at e; cases e)]
    exact rs.sub a u e
  · obtain ⟨q, e1, e2, o', e3, e4⟩ := rs.own i y h
    exact ⟨q, e1, e2, o', by rw [upd_ne (fun z => by subst z; exact ho ⟨i, y, h, e1⟩)]; exact e3, e4⟩
def cpr (vs : List Nat) (j : Nat) : Bool := !vs.contains j
theorem wipe_in {τ : L2.St} {i : Nat} (hi : i < τ.length) : ∀ {vs : List Nat}, i ∈ vs → (wipe τ vs)[i]? = some none
  | v :: vs, h => by
    unfold wipe
    by_cases q : v = i
    · subst q
      rw [List.getElem?_set_self (by rw [wipe_length]; exact hi)]
    · rw [List.getElem?_set_ne q]
      rcases List.mem_cons.mp h with z | z
      · exact absurd z.symm q
      · exact wipe_in hi z
theorem wipe_ext {τ1 τ2 : L2.St} {vs : List Nat} (hl : τ1.length = τ2.length) (h : ∀ j : Nat, cpr vs j = true → τ1[j]? = τ2[j]?) : wipe τ1 vs = wipe τ2 vs := by
  refine List.ext_getElem? fun i => ?_
  by_cases q : i ∈ vs
  · by_cases hi : i < τ1.length
    · rw [wipe_in hi q, wipe_in (by omega) q]
    · rw [List.getElem?_eq_none (by rw [wipe_length]; omega), List.getElem?_eq_none (by rw [wipe_length]; omega)]
  · rw [wipe_out' q, wipe_out' q]
    exact h i (by unfold cpr; simpa using q)
theorem opnd_of {a : R} {ρ0 : Env} {F0 : Hp} (rs : RS K σ ρ F H) (gr : Gr σ ρ0 F0 H0 σ ρ F H) (rr : RR K σ ρ F H H0 a v) : ∃ F', RS K σ ρ F' H ∧ Gr σ ρ0 F0 H0 σ ρ F' H ∧ RO K σ F' (nrm a) v := by
  cases a with
  | d x => exact ⟨F, rs, gr, rr⟩
  | s i => exact ⟨F, rs, gr, rr.1⟩
  | o x =>
    obtain ⟨F', a, b, c, _⟩ := freeze rs gr rr
    exact ⟨F', a, b, c⟩
theorem LE.comp {it : Dx (List D)} {vs : List Nat} {t : GT} (GT_len : ∀ {x : D} {ρ ρ' : Env}, t x ρ = some ρ' → ρ'.length = ρ.length) {tt : Dx Bool} {e : DE} {Q : VK} (h : LE K mg W (xLc it vs t tt e) σ H Q) :
    tLc (LI K mg W it) (LG K (cpr vs) t) (LT K mg noX tt) (LE K mg noX e) vs σ H Q := by
  obtain ⟨ρ, F, r, ρ', rs, e0, q⟩ := h
  unfold xLc bE at e0
  cases z : it ρ with
  | none => rw [z] at e0; cases e0
  | some w =>
    obtain ⟨ri, ρ1⟩ := w
    rw [z] at e0
    cases ri with
    | error x =>
      cases e0
      exact ⟨ρ, F, .error x, _, rs, z, q⟩
    | ok xs =>
      dsimp only at e0
      refine ⟨ρ, F, .ok xs, ρ1, rs, z, fun F1 H1 J rs1 gr1 gv L hL => ?_⟩
      have fL : F1 L = none := by
        cases y : F1 L with
        | none => rfl
        | some o => rw [rs1.sub _ _ y] at hL; cases hL
      have oL : ¬ Ow ρ1 σ L := fun y => (rs1.ow_some y).1 hL
      have hH1 : ∀ a, H1 a ≠ none → a ≠ L := fun a h y => by subst y; exact h hL
      refine ⟨fun i m H2 => m = xs.length - i ∧ i ≤ xs.length ∧ ∃ ρ2 F2 acc av, RS K σ ρ2 F2 H2 ∧ Gr σ ρ1 F1 H1 σ ρ2 F2 H2 ∧ H2 L = some (.lst av) ∧ F2 L = none ∧ ¬ Ow ρ2 σ L ∧ Reps K F2 acc av ∧
          bE (compL vs t tt e (xs.drop i) acc) (fun acc => rE (.o (.lst acc))) ρ2 = some (r, ρ'), ⟨xs.length, rfl, Nat.zero_le _, ρ1, F1, [], [], ?_, ?_, upd_same, fL, oL, .nil, e0⟩, ?_⟩
      · exact touch rs1 fL oL
      · exact ⟨fun a h _ => upd_ne (hH1 a h), fun a h => by rw [upd_ne (hH1 a h)]; exact h, Sub.refl, fun _ _ _ h => h, fun a h => .inl h⟩
      · rintro i m H2 ⟨rfl, hi, ρ2, F2, acc, av, rs2, gr2, hL2, fL2, oL2, ra, e2⟩
        obtain ⟨g1, g2⟩ := gv i F2 H2 gr2.mono rs2.sub
        by_cases hlt : i < xs.length
        · obtain ⟨hgo, hy⟩ := g2 xs[i] (by simp [hlt])
          rw [List.drop_eq_getElem_cons hlt] at e2
          unfold bE compL at e2
          obtain ⟨_, rsw, _, oww⟩ := wipe_rs (vs := vs) rs2 rfl rfl
          cases y : t xs[i] (wipeE ρ2 vs) with
          | none => rw [y] at e2; cases e2
          | some ρ3 =>
            rw [y] at e2
            dsimp only at e2
            refine .inr ⟨hgo, fun H5 => ∃ ρ5 F5 acc av, RS K σ ρ5 F5 H5 ∧ Gr σ ρ1 F1 H1 σ ρ5 F5 H5 ∧ H5 L = some (.lst av) ∧ F5 L = none ∧ ¬ Ow ρ5 σ L ∧ Reps K F5 acc av ∧
              bE (compL vs t tt e (xs.drop (i + 1)) acc) (fun acc => rE (.o (.lst acc))) ρ5 = some (r, ρ'), fun H5 w => ⟨xs.length - (i + 1), by omega, rfl, hlt, w⟩, fun v H3 hv => ?_⟩
            obtain ⟨F3, stp, rp⟩ := hy v H3 hv
            obtain ⟨rs3, gr3⟩ := stp.ok rsw
            have hw : Gr σ ρ2 F2 H2 (wipe σ vs) (wipeE ρ2 vs) F3 H3 := ⟨fun a h n => gr3.keep a h fun o => n (oww a o), gr3.live, gr3.mono, fun a h n => gr3.nofz a h fun o => n (oww a o), fun a o => (gr3.sub a o).imp (oww a) id⟩
            have lN : ∀ {σ4 : L2.St} {ρ4 : Env} {F4 H4 : Hp}, Gr σ ρ2 F2 H2 σ4 ρ4 F4 H4 → H4 L = some (.lst av) ∧ F4 L = none ∧ ¬ Ow ρ4 σ4 L := fun {σ4 ρ4 F4 H4} gr => by
              have h2 : H2 L ≠ none := by rw [hL2]; simp
              exact ⟨by rw [gr.keep L h2 oL2]; exact hL2, gr.nofz L h2 oL2 fL2, fun o => (gr.sub L o).elim oL2 h2⟩
            refine ⟨wipeE ρ2 vs, F3, xs[i], ρ3, rs3, rp, y, fun σ4 F4 H4 rs4 gr4 p4 => ?_⟩
            have gr24 := hw.trans gr4
            have lσ : σ4.length = (wipe σ vs).length := by rw [← rs4.len, ← rsw.len]; exact GT_len y
            have ew : wipe σ4 vs = wipe σ vs := by
              rw [wipe_ext lσ p4]
              exact wipe_ext (wipe_length _ _) fun j hj => wipe_out' (by unfold cpr at hj; simpa using hj)
            have lσ2 : σ4.length = σ.length := by rw [lσ, wipe_length]
            refine ⟨ew, ?_⟩
            have fin : ∀ {ρ7 : Env} {F7 H7 : Hp} {o : HO}, RS K σ4 ρ7 F7 H7 → Gr σ ρ2 F2 H2 σ4 ρ7 F7 H7 → RS K σ (wipeE ρ7 vs) F7 H7 ∧ Gr σ ρ1 F1 H1 σ (wipeE ρ7 vs) F7 H7 ∧ ¬ Ow (wipeE ρ7 vs) σ L := fun {ρ7 F7 H7 o} rs7 gr7 => by
              obtain ⟨a1, _, a3, _⟩ := wipe_rs (σ := σ) rs7 ew lσ2
              have gr17 := gr2.trans gr7
              exact ⟨a1, ⟨gr17.keep, gr17.live, gr17.mono, gr17.nofz, fun p hp => gr17.sub p (a3 p hp)⟩, fun hp => (lN gr7).2.2 (a3 L hp)⟩
            cases yt : tt ρ3 with
            | none => rw [yt] at e2; cases e2
            | some w =>
              obtain ⟨rb, ρ5⟩ := w
              rw [yt] at e2
              cases rb with
              | error x => cases e2
              | ok b =>
                refine ⟨ρ3, F4, .ok b, ρ5, rs4, yt, fun F5 H5 rs5 gr5 => ?_⟩
                have gr25 := gr24.trans gr5
                cases b with
                | false =>
                  refine iteF ?_
                  dsimp only at e2
                  obtain ⟨a1, a2, a3⟩ := fin (o := .lst []) rs5 gr25
                  exact ⟨wipeE ρ5 vs, F5, acc, av, a1, a2, (lN gr25).1, (lN gr25).2.1, a3, ra.sub gr25.mono, e2⟩
                | true =>
                  refine iteT ?_
                  dsimp only at e2
                  cases ye : e ρ5 with
                  | none => rw [ye] at e2; cases e2
                  | some w =>
                    obtain ⟨re, ρ6⟩ := w
                    rw [ye] at e2
                    cases re with
                    | error x => cases e2
                    | ok a =>
                      refine ⟨ρ5, F5, .ok a, ρ6, rs5, ye, fun v6 F6 H6 rs6 gr6 rr => ?_⟩
                      obtain ⟨F6', rs6', gr6', ro⟩ := opnd_of rs6 gr6 rr
                      dsimp only at e2
                      cases yd : toD ρ6 (nrm a) with
                      | none => rw [yd] at e2; cases e2
                      | some w =>
                        obtain ⟨z, ρ7⟩ := w
                        rw [yd] at e2
                        dsimp only at e2
                        obtain ⟨F7, rs7, gr7, rz⟩ := toD_ok rs6' ro yd
                        have gr27 := gr25.trans (gr6'.trans gr7)
                        by_cases hz : acc.length < sizeLine
                        · rw [if_pos hz] at e2
                          obtain ⟨a1, a2, a3⟩ := fin (o := .lst []) rs7 gr27
                          obtain ⟨b1, b2, _⟩ := lN gr27
                          have rr7 := ra.sub gr27.mono
                          refine ⟨av, b1, by rw [← ra.length]; exact hz, wipeE ρ7 vs, F7, acc ++ [z], av ++ [v6], touch a1 b2 a3, ⟨fun c h n => ?_, fun c h => ?_, a2.mono, a2.nofz, a2.sub⟩, upd_same, b2, a3, rr7.append (.cons rz .nil), e2⟩
                          · rw [upd_ne (hH1 c h)]
                            exact a2.keep c h n
                          · rw [upd_ne (hH1 c h)]
                            exact a2.live c h
                        · rw [if_neg hz] at e2
                          cases e2
        · have ei : i = xs.length := by omega
          subst ei
          rw [List.drop_length] at e2
          cases e2
          refine .inl ⟨g1 (Nat.le_refl _), ?_⟩
          refine q _ F2 H2 rs2 (gr1.trans gr2) ⟨L, rfl, ?_, oL2, fL2, .lst av, hL2, ra⟩
          cases y : H L with
          | none => rfl
          | some o => exact absurd hL (gr1.live L (by rw [y]; simp))
end
end Dn
end

section
set_option Elab.async false
set_option linter.all false
set_option maxRecDepth 100000
set_option maxHeartbeats 2000000
/-! Dn: subscripts, slices, methods, built-in functions. -/
namespace Dn
open PySem PySem.Spec L2
section
variable {K : Fg} {mg : MG} {W : WX} {pr : Nat → Bool} {σ σ1 σ' : L2.St} {ρ ρ1 ρ' : Env} {F F1 F' H H1 H' H0 : Hp} {v u : V} {f fa fb : DE} {x y : D}
/-! ### readings of any kind -/
def LX {α : Type} (K : Fg) (mg : MG) (W : WX) (f : Dx α) : L2.St → Hp → (α → Hp → Prop) → Prop := fun σ H Q => ∃ ρ F r ρ', RS K σ ρ F H ∧ f ρ = some (r, ρ') ∧
  match (r : Except Exn α) with
  | .ok b => ∀ F' H', RS K σ ρ' F' H' → Gr σ ρ F H σ ρ' F' H' → Q b H'
  | .error x => EX K mg W σ ρ F H x ρ'
theorem LX.bind {α β : Type} {t : Dx α} {k : α → Dx β} {r : Except Exn β} {G : α → Hp → Prop} (rs : RS K σ ρ F H) (e : bE t k ρ = some (r, ρ'))
    (herr : ∀ x, r = .error x → EX K mg W σ ρ F H x ρ')
    (hok : ∀ b ρ1 F1 H1, RS K σ ρ1 F1 H1 → Gr σ ρ F H σ ρ1 F1 H1 → k b ρ1 = some (r, ρ') → G b H1) : LX K mg W t σ H G := by
  unfold bE at e
  cases q : t ρ with
  | none => rw [q] at e; cases e
  | some z =>
    obtain ⟨ra, ρ1⟩ := z
    rw [q] at e
    cases ra with
    | error x =>
      cases e
      exact ⟨ρ, F, .error x, ρ', rs, q, herr x rfl⟩
    | ok a => exact ⟨ρ, F, .ok a, ρ1, rs, q, fun F' H' rs' g => hok a ρ1 F' H' rs' g e⟩
/-! ### subscripts -/
def kIx : D → D → Option R
  | .lst ds, .int i => (atI ds i).map .d
  | .tup ds, .int i => (atI ds i).map .d
  | .src ns, .int i => (atI ns i).map fun n => .d (.int n)
  | .str z, .int i => if z.length ≤ sizeLine then (atI z.cps.toList i).map fun c => .d (.str ⟨#[c]⟩) else none
  | _, _ => none
theorem Reps.atI {ds : List D} {vs : List V} (r : Reps K F ds vs) {i : Int} {d : D} (e : L2.atI ds i = some d) : ∃ v, L2.atI vs i = some v ∧ Rep K F d v := by
  unfold L2.atI at e ⊢
  rw [r.length] at e
  cases q : ixN vs.length i with
  | none => rw [q] at e; cases e
  | some j =>
    rw [q] at e
    exact r.get (show ds[j]? = some d from e)
theorem hIx : ∀ x y res v u ρ F H, RS K σ ρ F H → PK K F H x v → PK K F H y u → kIx x y = some res → ∀ Q, FinR K σ ρ F H res Q → rIx K v u H Q := by
  intro x y res v u ρ F H rs hx hy e Q q
  unfold kIx at e
  split at e
  · rename_i ds i
    obtain ⟨a, xs, rfl, ha, ra⟩ := hx.lst rs.sub
    cases hy.int
    cases z : atI ds i with
    | none => rw [z] at e; cases e
    | some d =>
      rw [z] at e
      cases e
      obtain ⟨w, e1, e2⟩ := ra.atI z
      exact .inl ⟨a, xs, i, w, rfl, rfl, SqL.of ha, e1, q.dat rs e2⟩
  · rename_i ds i
    obtain ⟨a, xs, rfl, ha, ra⟩ := hx.tup rs.sub
    cases hy.int
    cases z : atI ds i with
    | none => rw [z] at e; cases e
    | some d =>
      rw [z] at e
      cases e
      obtain ⟨w, e1, e2⟩ := ra.atI z
      exact .inr (.inl ⟨a, xs, i, w, rfl, rfl, ha, e1, q.dat rs e2⟩)
  · rename_i ns i
    obtain ⟨a, rfl, ha⟩ := hx.src rs.sub
    cases hy.int
    cases z : atI ns i with
    | none => rw [z] at e; cases e
    | some d =>
      rw [z] at e
      cases e
      refine .inl ⟨a, _, i, .int d, rfl, rfl, ha, ?_, q.dat rs (.int d)⟩
      unfold atI at z ⊢
      rw [List.length_map]
      cases y : ixN ns.length i with
      | none => rw [y] at z; cases z
      | some j =>
        rw [y] at z
        have z : ns[j]? = some d := z
        show (ns.map V.int)[j]? = some (.int d)
        rw [List.getElem?_map, z]
        rfl
  · rename_i z i
    split at e
    · rename_i hz
      cases hx.str
      cases hy.int
      cases y : atI z.cps.toList i with
      | none => rw [y] at e; cases e
      | some c =>
        rw [y] at e
        cases e
        exact .inr (.inr ⟨z, i, c, rfl, rfl, hz, y, q.dat rs (.str _)⟩)
    · cases e
  · cases e
theorem pe_ixD {X : Cx} {a b : Expr} {pos : Pos} (ha : PE X a (LE X.K X.mg W fa)) (hb : PE X b (LE X.K X.mg W fb)) (hs : PlainIx b := by intro _ _; rfl) : PE X (.Subscript a b pos) (LE X.K X.mg W (o2 fa fb kIx)) :=
  PE.imp (pe_ix ix_seq ha hb hs) fun _ _ _ h => LE.two h fun x y res v u ρ F H rs hx hy e q => hIx x y res v u ρ F H rs hx hy e _ q
/-! ### slices -/
def eI (f : DE) : Dx (Option Int) := bE f fun a => fun ρ => match a with
  | .d (.int i) => some (.ok (some i), ρ)
  | _ => none
theorem LX.part {Q : Option Int → Hp → Prop} (h : LX K mg W (eI f) σ H Q) : tPart (LE K mg W f) σ H Q := by
  obtain ⟨ρ, F, r, ρ', rs, e, q⟩ := h
  refine LE.bind rs e (fun x hx => by subst hx; exact q) fun a v ρ1 F1 H1 rs1 g1 rr e1 => ?_
  cases a with
  | d x =>
    cases x with
    | int b =>
      cases e1
      cases rr
      exact ⟨b, rfl, q F1 H1 rs1 g1⟩
    | _ => cases e1
  | _ => cases e1
def eNo : Dx (Option Int) := rE none
theorem LX.noPart {Q : Option Int → Hp → Prop} (h : LX K mg W eNo σ H Q) : tNoPart σ H Q := by
  obtain ⟨ρ, F, r, ρ', rs, e, q⟩ := h
  cases e
  exact q F H rs Gr.refl
theorem PO.imp {X : Cx} {e : Option Expr} {t t' : TO} (h : PO X e t) (i : ∀ σ H Q, t' σ H Q → t σ H Q) : PO X e t' := ⟨fun pins s σ H Q I q => h.run pins s σ H Q I (i σ H Q q)⟩
theorem po_noD {X : Cx} : PO X none (LX X.K X.mg W eNo) := PO.imp po_none fun _ _ _ h => LX.noPart h
theorem po_soD {X : Cx} {e : Expr} (h : PE X e (LE X.K X.mg W f)) : PO X (some e) (LX X.K X.mg W (eI f)) := PO.imp (po_some h) fun _ _ _ h => LX.part h
def cut {α : Type} (xs : List α) (lo hi : Option Int) : List α := (xs.drop (HT.sIx xs.length 0 lo)).take (HT.sIx xs.length xs.length hi - HT.sIx xs.length 0 lo)
def kSl (x : D) (lo hi : Option Int) : Option R := match x with
  | .lst ds => some (.o (.lst (cut ds lo hi)))
  | .src ns => some (.o (.lst ((cut ns lo hi).map .int)))
  | .tup ds => some (.d (.tup (cut ds lo hi)))
  | .str z => if z.length ≤ sizeLine then some (.d (.str (cutS z lo hi))) else none
  | _ => none
def rSl4 (K : Fg) : V → Option Int → Option Int → Hp → VK → Prop := fun x lo hi H Q => rSlL K x lo hi H Q ∨ rSlA K x lo hi H Q ∨ rSlS x lo hi H Q
theorem sl4 {X : Cx} : SlR X (rSl4 X.K) := SlR.or sl_list (SlR.or sl_tupA sl_str)
def xSl (fa : DE) (lo hi : Dx (Option Int)) : DE := bE fa fun a => bE lo fun l => bE hi fun h => fun ρ => match pk ρ (nrm a) with
  | some x => lft (kSl x l h) ρ
  | none => none
theorem Reps.cut {ds : List D} {vs : List V} (r : Reps K F ds vs) (lo hi : Option Int) : Reps K F (Dn.cut ds lo hi) (cutV vs lo hi) := by
  unfold Dn.cut cutV
  rw [r.length]
  exact (r.drop _).take _
theorem cut_whole {α : Type} {xs : List α} {lo hi : Option Int} (h : HT.sIx xs.length 0 lo = 0 ∧ HT.sIx xs.length xs.length hi = xs.length) : cut xs lo hi = xs := by
  unfold cut
  rw [h.1, h.2]
  simp
theorem hSl {lo hi : Option Int} {res : R} {Q : VK} (rs : RS K σ ρ F H) (hx : PK K F H x v) (e : kSl x lo hi = some res) (q : FinR K σ ρ F H res Q) : rSl4 K v lo hi H Q := by
  unfold kSl at e
  split at e
  · rename_i ds
    cases e
    obtain ⟨a, xs, rfl, ha, ra⟩ := hx.lst rs.sub
    exact .inl ⟨a, xs, rfl, SqL.of ha, FinR.lst q rs (ra.cut lo hi)⟩
  · rename_i ns
    cases e
    obtain ⟨a, rfl, ha⟩ := hx.src rs.sub
    refine .inl ⟨a, _, rfl, ha, FinR.lst q rs ?_⟩
    have := Reps.cut (Reps.nums (K := K) (F := F) ns) lo hi
    unfold Dn.cut at this ⊢
    rw [List.length_map] at this
    rw [List.map_take, List.map_drop]
    exact this
  · rename_i ds
    cases e
    obtain ⟨a, xs, rfl, ha, ra⟩ := hx.tup rs.sub
    refine .inr (.inl ⟨a, xs, rfl, ha, fun h => ?_, fun _ => FinR.tup q rs (ra.cut lo hi)⟩)
    have hl := ra.length
    rw [← hl] at h
    rw [cut_whole h] at q
    rcases hx with r | ⟨p, _, _, o, _, w⟩
    · exact q.dat rs r
    · cases o <;> exact w.elim
  · rename_i z
    split at e
    · rename_i hz
      cases e
      cases hx.str
      exact .inr (.inr ⟨z, rfl, hz, q.dat rs (.str _)⟩)
    · cases e
  · cases e
theorem pe_slD {X : Cx} {e : Expr} {lo hi : Option Expr} {tl th : Dx (Option Int)} {pos p2 : Pos} (he : PE X e (LE X.K X.mg W fa)) (hl : PO X lo (LX X.K X.mg W tl)) (hh : PO X hi (LX X.K X.mg W th)) :
    PE X (.Subscript e (.Slice lo hi none p2) pos) (LE X.K X.mg W (xSl fa tl th)) :=
  PE.imp (pe_slice sl4 he hl hh) fun σ H Q h => by
    obtain ⟨ρ, F, r, ρ', rs, e, q⟩ := h
    refine LE.opnd (k := fun a => bE tl fun l => bE th fun h => fun ρ => match pk ρ a with
      | some x => lft (kSl x l h) ρ
      | none => none) rs e (fun x hx => by subst hx; exact q) fun a v ρ1 F1 H1 rs1 g1 ro e1 => ?_
    refine LX.bind rs1 e1 (fun x hx => by subst hx; exact EX.trans g1 q) fun l ρ2 F2 H2 rs2 g2 e2 => ?_
    refine LX.bind rs2 e2 (fun x hx => by subst hx; exact EX.trans (g1.trans g2) q) fun h ρ3 F3 H3 rs3 g3 e3 => ?_
    cases ea : pk ρ3 a with
    | none => rw [ea] at e3; cases e3
    | some x =>
      rw [ea] at e3
      obtain ⟨res, e4, rfl, rfl⟩ := lft_some e3
      have g23 := g2.trans g3
      exact hSl rs3 (pk_ok rs3 (ro.sub g23.mono) ea) e4 fun w F' H' rs' g' rr => q w F' H' rs' (g1.trans (g23.trans g')) (RR.weak (g1.trans g23).live rr)
def kRev : D → Option R
  | .lst ds => some (.o (.lst ds.reverse))
  | .src ns => some (.o (.lst (ns.reverse.map .int)))
  | _ => none
theorem pe_revD {X : Cx} {e : Expr} {k : Nat} {p1 p2 p3 pos : Pos} (he : PE X e (LE X.K X.mg W f)) : PE X (.Subscript e (.Slice none none (some (.UnaryOp .USub (.Constant (.int 1) k p1) p2)) p3) pos) (LE X.K X.mg W (o1 f kRev)) :=
  PE.imp (pe_revL he) fun _ _ _ h => LE.one h fun x res v ρ F H rs hx e q => by
    unfold kRev at e
    split at e
    · cases e
      obtain ⟨a, xs, rfl, ha, ra⟩ := hx.lst rs.sub
      exact ⟨a, xs, rfl, SqL.of ha, FinR.lst q rs ra.reverse⟩
    · rename_i ns
      cases e
      obtain ⟨a, rfl, ha⟩ := hx.src rs.sub
      refine ⟨a, _, rfl, ha, FinR.lst q rs ?_⟩
      rw [List.map_reverse]
      exact (Reps.nums ns).reverse
    · cases e
/-! ### methods that change nothing -/
def tyD (T : String) : Option D → Bool
  | some (.str _) => T = "str"
  | some (.lst _) => T = "list"
  | some (.src _) => T = "list"
  | _ => false
theorem tyD_ok {T : String} (rs : RS K σ ρ F H) (h : PK K F H x v) (e : tyD T (some x) = true) : tyV K T v H := by
  cases x with
  | str z =>
    cases h.str
    have e : decide (T = "str") = true := e
    show T = "str"
    exact of_decide_eq_true e
  | lst ds =>
    obtain ⟨a, xs, rfl, ha, ra⟩ := h.lst rs.sub
    have e : decide (T = "list") = true := e
    exact .inl ⟨of_decide_eq_true e, xs, SqL.of ha⟩
  | src ns =>
    obtain ⟨a, rfl, ha⟩ := h.src rs.sub
    have e : decide (T = "list") = true := e
    exact .inl ⟨of_decide_eq_true e, _, ha⟩
  | _ => cases e
def mR (T : String) (f : DE) (fs : List DE) (k : D → List D → Option R) : DE := bE f fun a => fun ρ => if tyD T (pk ρ (nrm a)) = true then bE (eA fs) (fun as => fun ρ => match pk ρ (nrm a), pks ρ as with
  | some x, some xs => lft (k x xs) ρ
  | _, _ => none) ρ else none
theorem LE.mth {T : String} {fs : List DE} {k : D → List D → Option R} {r : V → List V → Hp → VK → Prop} {Q : VK} (h : LE K mg W (mR T f fs k) σ H Q)
    (hop : ∀ x xs res v vs ρ F H1, RS K σ ρ F H1 → PK K F H1 x v → PKs K F H1 xs vs → k x xs = some res → FinR K σ ρ F H1 res Q → r v vs H1 Q) : tBM K T r (LE K mg W f) (LA K mg W fs) σ H Q := by
  obtain ⟨ρ, F, rr, ρ', rs, e, q⟩ := h
  refine LE.opnd (k := fun a => fun ρ => if tyD T (pk ρ a) = true then bE (eA fs) (fun as => fun ρ => match pk ρ a, pks ρ as with
    | some x, some xs => lft (k x xs) ρ
    | _, _ => none) ρ else none) rs e (fun x hx => by subst hx; exact q) fun a v ρ1 F1 H1 rs1 g1 ro e1 => ?_
  split at e1
  · rename_i hty
    refine ⟨?_, ?_⟩
    · cases ea : pk ρ1 a with
      | none => rw [ea] at hty; cases hty
      | some x =>
        rw [ea] at hty
        exact tyD_ok rs1 (pk_ok rs1 ro ea) hty
    · refine LA.bind rs1 e1 (fun x hx => by subst hx; exact EX.trans g1 q) fun as vs ρ2 F2 H2 rs2 g2 ros e2 => ?_
      cases ea : pk ρ2 a with
      | none => simp [ea] at e2
      | some x =>
        cases eb : pks ρ2 as with
        | none => simp [ea, eb] at e2
        | some xs =>
          simp only [ea, eb] at e2
          obtain ⟨res, e3, rfl, rfl⟩ := lft_some e2
          exact hop x xs res v vs _ F2 H2 rs2 (pk_ok rs2 (ro.sub g2.mono) ea) (pks_ok rs2 ros eb) e3 fun w F' H' rs' g' r' => q w F' H' rs' (g1.trans (g2.trans g')) (RR.weak (g1.trans g2).live r')
  · cases e1
theorem LE.mth0 {T : String} {k : D → List D → Option R} {r : V → List V → Hp → VK → Prop} {Q : VK} (h : LE K mg W (mR T f [] k) σ H Q)
    (hop : ∀ x xs res v vs ρ F H1, RS K σ ρ F H1 → PK K F H1 x v → PKs K F H1 xs vs → k x xs = some res → FinR K σ ρ F H1 res Q → r v vs H1 Q) : tBM0 K T r (LE K mg W f) σ H Q := by
  have h2 := LE.mth h hop
  obtain ⟨ρ, F, rr, ρ', rs, e, q⟩ := h2
  refine ⟨ρ, F, rr, ρ', rs, e, ?_⟩
  cases rr with
  | error x => exact q
  | ok a =>
    refine fun v F' H' rs' g' r' => ?_
    obtain ⟨q1, q2⟩ := q v F' H' rs' g' r'
    exact ⟨q1, LA.nil q2⟩
/-! ### methods that change a list of one's own -/
def isOwnL : Option S → Bool
  | some (.o (.lst _)) => true
  | _ => false
def mO (f : DE) (fs : List DE) (k : List D → List D → Option (List D × D)) : DE := bE f fun a => fun ρ => match a with
  | .s i => if isOwnL (gt ρ i) = true then bE (eA fs) (fun as => fun ρ => match toDs ρ as with
    | some (xs, ρ1) => (match gt ρ1 i with
      | some (.o (.lst ds)) => (match k ds xs with
        | some (ys, r) => some (.ok (.d r), ρ1.set i (some (.o (.lst ys))))
        | none => none)
      | _ => none)
    | none => none) ρ else none
  | _ => none
/-- an own list changes -/
theorem own_set {i : Nat} {p : Addr} {o : HO} (rs : RS K σ ρ F H) (hs : gt ρ i = some (.o x)) (hp : σ[i]? = some (some (.ref p))) (w : OwnO K F o y) :
    RS K σ (ρ.set i (some (.o y))) F (upd H p o) ∧ Gr σ ρ F H σ (ρ.set i (some (.o y))) F (upd H p o) := by
  obtain ⟨q, e1, fp, u, e3, e4⟩ := rs.own i x hs
  rw [hp] at e1
  cases e1
  have hl := gt_lt hs
  have own' : ∀ (j : Nat) (z : D), gt (ρ.set i (some (.o y))) j = some (.o z) → (j = i ∧ z = y) ∨ (j ≠ i ∧ gt ρ j = some (.o z)) := fun j z h => by
    by_cases q : j = i
    · subst q
      rw [gt_same hl] at h
      cases h
      exact .inl ⟨rfl, rfl⟩
    · rw [gt_ne q] at h
      exact .inr ⟨q, h⟩
  have isO : ∀ (j : Nat) (z : D), gt (ρ.set i (some (.o y))) j = some (.o z) → ∃ z', gt ρ j = some (.o z') := fun j z h => by
    rcases own' j z h with ⟨rfl, _⟩ | ⟨_, h⟩
    · exact ⟨_, hs⟩
    · exact ⟨_, h⟩
  refine ⟨⟨fun a u e => ?_, by rw [List.length_set]; exact rs.len, fun j z h => ?_, fun j z h => ?_, fun j k z z' q h1 h2 h3 h4 => ?_⟩, ⟨fun a ha hn => ?_, fun a ha => ?_, Sub.refl, fun _ _ _ h => h, fun a ha => ?_⟩⟩
  · rw [upd_ne (fun z => by rw [z, fp] at e; cases e)]
    exact rs.sub a u e
  · by_cases q : j = i
    · subst q
      rw [gt_same hl] at h
      cases h
    · rw [gt_ne q] at h
      exact rs.dat j z h
  · rcases own' j z h with ⟨rfl, rfl⟩ | ⟨nq, h⟩
    · exact ⟨p, hp, fp, o, upd_same, w⟩
    · obtain ⟨q, q1, q2, o', q3, q4⟩ := rs.own j z h
      have nq2 : q ≠ p := fun z' => by subst z'; exact nq (rs.inj j i _ _ q h hs q1 hp)
      exact ⟨q, q1, q2, o', by rw [upd_ne nq2]; exact q3, q4⟩
  · obtain ⟨a1, b1⟩ := isO j z h1
    obtain ⟨a2, b2⟩ := isO k z' h2
    exact rs.inj j k _ _ q b1 b2 h3 h4
  · have nq : a ≠ p := fun z => by subst z; exact hn ⟨i, x, hs, hp⟩
    rw [upd_ne nq]
  · by_cases q : a = p
    · subst q
      rw [upd_same]
      exact nofun
    · rw [upd_ne q]
      exact ha
  · obtain ⟨j, z, h1, h2⟩ := ha
    obtain ⟨a1, b1⟩ := isO j z h1
    exact .inl ⟨j, a1, b1, h2⟩
theorem LE.own {fs : List DE} {k : List D → List D → Option (List D × D)} {r : V → List V → Hp → VK → Prop} {Q : VK} (h : LE K mg W (mO f fs k) σ H Q)
    (hop : ∀ ds xs ys d p us vs F H1, H1 p = some (.lst us) → Reps K F ds us → Reps K F xs vs → Sub F H1 → k ds xs = some (ys, d) → (∀ ws w, Reps K F ys ws → Rep K F d w → Q w (upd H1 p (.lst ws))) → r (.ref p) vs H1 Q) : tBM K "list" r (LE K mg W f) (LA K mg W fs) σ H Q := by
  obtain ⟨ρ, F, rr, ρ', rs, e, q⟩ := h
  refine LE.bind rs e (fun x hx => by subst hx; exact q) fun a v ρ1 F1 H1 rs1 g1 ro e1 => ?_
  cases a with
  | s i =>
    dsimp only at e1
    split at e1
    · rename_i hown
      obtain ⟨hv, _⟩ := ro
      refine ⟨?_, ?_⟩
      · cases eg : gt ρ1 i with
        | none => rw [eg] at hown; cases hown
        | some s =>
          rw [eg] at hown
          cases s with
          | d z => cases hown
          | o z =>
            cases z with
            | lst ds =>
              obtain ⟨p, e1, fp, u, e3, e4⟩ := rs1.own i _ eg
              rw [hv] at e1
              cases e1
              cases u with
              | lst us => exact .inl ⟨rfl, us, SqL.of e3⟩
              | _ => exact e4.elim
            | _ => cases hown
      · refine LA.bind rs1 e1 (fun x hx => by subst hx; exact EX.trans g1 q) fun as vs ρ2 F2 H2 rs2 g2 ros e2 => ?_
        cases ea : toDs ρ2 as with
        | none => rw [ea] at e2; cases e2
        | some w =>
          obtain ⟨xs, ρ3⟩ := w
          rw [ea] at e2
          dsimp only at e2
          obtain ⟨F3, rs3, g3, rx⟩ := toDs_ok rs2 ros ea
          cases eg : gt ρ3 i with
          | none => rw [eg] at e2; cases e2
          | some s =>
            rw [eg] at e2
            cases s with
            | d z => cases e2
            | o z =>
              cases z with
              | lst ds =>
                dsimp only at e2
                cases ek : k ds xs with
                | none => rw [ek] at e2; cases e2
                | some w =>
                  obtain ⟨ys, d⟩ := w
                  rw [ek] at e2
                  cases e2
                  obtain ⟨p, e1, fp, u, e3, e4⟩ := rs3.own i _ eg
                  rw [hv] at e1
                  cases e1
                  cases u with
                  | lst us =>
                    refine hop ds xs ys d p us vs F3 H2 e3 e4 rx rs3.sub ek fun ws w rw' rd => ?_
                    obtain ⟨a1, a2⟩ := own_set (y := .lst ys) (o := .lst ws) rs3 eg hv rw'
                    exact q w F3 _ a1 (g1.trans (g2.trans (g3.trans a2))) rd
                  | _ => exact e4.elim
              | _ => cases e2
    · cases e1
  | _ => cases e1
theorem LE.own0 {k : List D → List D → Option (List D × D)} {r : V → List V → Hp → VK → Prop} {Q : VK} (h : LE K mg W (mO f [] k) σ H Q)
    (hop : ∀ ds xs ys d p us vs F H1, H1 p = some (.lst us) → Reps K F ds us → Reps K F xs vs → Sub F H1 → k ds xs = some (ys, d) → (∀ ws w, Reps K F ys ws → Rep K F d w → Q w (upd H1 p (.lst ws))) → r (.ref p) vs H1 Q) : tBM0 K "list" r (LE K mg W f) σ H Q := by
  obtain ⟨ρ, F, rr, ρ', rs, e, q⟩ := LE.own h hop
  refine ⟨ρ, F, rr, ρ', rs, e, ?_⟩
  cases rr with
  | error x => exact q
  | ok a =>
    refine fun v F' H' rs' g' r' => ?_
    obtain ⟨q1, q2⟩ := q v F' H' rs' g' r'
    exact ⟨q1, LA.nil q2⟩
end
end Dn
end

section
set_option Elab.async false
set_option linter.all false
set_option maxRecDepth 100000
set_option maxHeartbeats 2000000
/-! Dn: built-in functions, methods of lists and texts. -/
namespace Dn
open PySem PySem.Spec L2
section
variable {K : Fg} {mg : MG} {W : WX} {pr : Nat → Bool} {σ σ1 σ' : L2.St} {ρ ρ1 ρ' : Env} {F F1 F' H H1 H' H0 : Hp} {v u : V} {f fa fb : DE} {x y : D}
theorem PKs.one {vs : List V} (h : PKs K F H [x] vs) : ∃ v, vs = [v] ∧ PK K F H x v := by
  cases h with
  | cons a b =>
    cases b
    exact ⟨_, rfl, a⟩
theorem PKs.two {vs : List V} (h : PKs K F H [x, y] vs) : ∃ v u, vs = [v, u] ∧ PK K F H x v ∧ PK K F H y u := by
  cases h with
  | cons a b =>
    obtain ⟨u, rfl, c⟩ := b.one
    exact ⟨_, _, rfl, a, c⟩
theorem PKs.zero {vs : List V} (h : PKs K F H [] vs) : vs = [] := by
  cases h
  rfl
theorem Reps.one {vs : List V} (h : Reps K F [x] vs) : ∃ v, vs = [v] ∧ Rep K F x v := by
  cases h with
  | cons a b =>
    cases b
    exact ⟨_, rfl, a⟩
theorem Reps.two {vs : List V} (h : Reps K F [x, y] vs) : ∃ v u, vs = [v, u] ∧ Rep K F x v ∧ Rep K F y u := by
  cases h with
  | cons a b =>
    obtain ⟨u, rfl, c⟩ := b.one
    exact ⟨_, _, rfl, a, c⟩
theorem Reps.zero {vs : List V} (h : Reps K F [] vs) : vs = [] := by
  cases h
  rfl
/-- a built-in function and its function on data -/
def CallF (X : Cx) (f : Value) (k : List D → Option R) : Prop := ∃ r : List V → Hp → VK → Prop, CallR X f r ∧
  ∀ {σ : L2.St} xs res vs ρ F H, RS X.K σ ρ F H → PKs X.K F H xs vs → k xs = some res → ∀ Q, FinR X.K σ ρ F H res Q → r vs H Q
section
variable {X : Cx} {e : Expr} {es : List Expr} {fs : List DE} {nm : Str} {p pos : Pos} {id : String} {T : String} {k : List D → Option R}
theorem pa_nilD : PA X [] (LA X.K X.mg W []) := PA.imp pa_nil fun _ _ _ h => LA.nil h
theorem pa_consD (ha : PE X e (LE X.K X.mg W f)) (hb : PA X es (LA X.K X.mg W fs)) (hs : starEach (e :: es) X.env = (false, eval e X.env) :: starEach es X.env := by rfl) : PA X (e :: es) (LA X.K X.mg W (f :: fs)) := PA.imp (pa_cons ha hb hs) fun _ _ _ h => LA.cons h
theorem pe_cbD (C : CallF X (.builtin id) k) (hg : Gl X nm) (hm : X.mg nm = none) (hv : bootBuiltins nm = some (.builtin id)) (ha : PA X (e :: es) (LA X.K X.mg W fs)) (hn : nm ≠ "__name__" := by decide) (hdb : (nm == ("__debug__" : Str)) = false := by decide)
    (he : starEach (e :: es) X.env = (false, eval e X.env) :: starEach es X.env := by rfl) (hpl : (backTo pos (starEach es X.env)).any (·.1) = false := by rfl) : PE X (.Call (.Name nm p) (e :: es) [] pos) (LE X.K X.mg W (oN fs k)) := by
  obtain ⟨r, C1, C2⟩ := C
  exact PE.imp (pe_callB C1 hg hm hv ha hn hdb he hpl) fun _ _ _ h => LA.ops h fun xs res vs ρ F H rs pk e q => C2 xs res vs ρ F H rs pk e _ q
theorem pe_ctD (C : CallF X (.type T) k) (hg : Gl X nm) (hm : X.mg nm = none) (hv : bootBuiltins nm = some (.type T)) (ha : PA X (e :: es) (LA X.K X.mg W fs)) (hn : nm ≠ "__name__" := by decide) (hdb : (nm == ("__debug__" : Str)) = false := by decide)
    (he : starEach (e :: es) X.env = (false, eval e X.env) :: starEach es X.env := by rfl) (hpl : (backTo pos (starEach es X.env)).any (·.1) = false := by rfl) : PE X (.Call (.Name nm p) (e :: es) [] pos) (LE X.K X.mg W (oN fs k)) := by
  obtain ⟨r, C1, C2⟩ := C
  exact PE.imp (pe_callTy C1 hg hm hv ha hn hdb he hpl) fun _ _ _ h => LA.ops h fun xs res vs ρ F H rs pk e q => C2 xs res vs ρ F H rs pk e _ q
end
theorem b_len : bootBuiltins "len" = some (.builtin "len") := by decide +kernel
theorem b_abs : bootBuiltins "abs" = some (.builtin "abs") := by decide +kernel
theorem b_max : bootBuiltins "max" = some (.builtin "max") := by decide +kernel
theorem b_min : bootBuiltins "min" = some (.builtin "min") := by decide +kernel
theorem b_sum : bootBuiltins "sum" = some (.builtin "sum") := by decide +kernel
theorem b_any : bootBuiltins "any" = some (.builtin "any") := by decide +kernel
theorem b_all : bootBuiltins "all" = some (.builtin "all") := by decide +kernel
theorem b_repr : bootBuiltins "repr" = some (.builtin "repr") := by decide +kernel
theorem b_sorted : bootBuiltins "sorted" = some (.builtin "sorted") := by decide +kernel
theorem b_isinstance : bootBuiltins "isinstance" = some (.builtin "isinstance") := by decide +kernel
theorem b_int : bootBuiltins "int" = some (.type "int") := by decide +kernel
theorem b_bool : bootBuiltins "bool" = some (.type "bool") := by decide +kernel
theorem b_str : bootBuiltins "str" = some (.type "str") := by decide +kernel
theorem b_list : bootBuiltins "list" = some (.type "list") := by decide +kernel
theorem b_tuple : bootBuiltins "tuple" = some (.type "tuple") := by decide +kernel
/-! len, abs, max, min, int, bool, str -/
def kLen : List D → Option R
  | [.lst ds] => some (.d (.int (ds.length : Nat)))
  | [.tup ds] => some (.d (.int (ds.length : Nat)))
  | [.src ns] => some (.d (.int (ns.length : Nat)))
  | [.str z] => if z.length ≤ sizeLine then some (.d (.int (z.length : Nat))) else none
  | _ => none
section
variable {X : Cx}
theorem cf_len : CallF X (.builtin "len") kLen := ⟨_, call_len, by
  intro σ xs res vs ρ F H rs pk e Q q
  unfold kLen at e
  split at e
  · cases e
    obtain ⟨v, rfl, h⟩ := pk.one
    obtain ⟨a, ys, rfl, ha, ra⟩ := h.lst rs.sub
    exact ⟨_, _, rfl, .inl ⟨ys, SqL.of ha, ra.length⟩, q.dat rs (.int _)⟩
  · cases e
    obtain ⟨v, rfl, h⟩ := pk.one
    obtain ⟨a, ys, rfl, ha, ra⟩ := h.tup rs.sub
    exact ⟨_, _, rfl, .inr ⟨ys, ha, ra.length⟩, q.dat rs (.int _)⟩
  · cases e
    obtain ⟨v, rfl, h⟩ := pk.one
    obtain ⟨a, rfl, ha⟩ := h.src rs.sub
    exact ⟨_, _, rfl, .inl ⟨_, ha, by rw [List.length_map]⟩, q.dat rs (.int _)⟩
  · split at e
    · cases e
      obtain ⟨v, rfl, h⟩ := pk.one
      cases h.str
      exact ⟨_, _, rfl, ⟨by assumption, rfl⟩, q.dat rs (.int _)⟩
    · cases e
  · cases e⟩
def kAbs : List D → Option R
  | [.int i] => some (.d (.int (if i < 0 then -i else i)))
  | _ => none
theorem cf_abs : CallF X (.builtin "abs") kAbs := ⟨_, call_abs, by
  intro σ xs res vs ρ F H rs pk e Q q
  unfold kAbs at e
  split at e
  · cases e
    obtain ⟨v, rfl, h⟩ := pk.one
    cases h.int
    exact ⟨_, rfl, q.dat rs (.int _)⟩
  · cases e⟩
def kMax2 : List D → Option R
  | [.int i, .int j] => some (.d (.int (if j > i then j else i)))
  | _ => none
theorem cf_max2 (hc : X.calm = true) : CallF X (.builtin "max") kMax2 := ⟨_, call_max2 hc, by
  intro σ xs res vs ρ F H rs pk e Q q
  unfold kMax2 at e
  split at e
  · cases e
    obtain ⟨v, u, rfl, h1, h2⟩ := pk.two
    cases h1.int
    cases h2.int
    exact ⟨_, _, rfl, q.dat rs (.int _)⟩
  · cases e⟩
def kMin2 : List D → Option R
  | [.int i, .int j] => some (.d (.int (if j < i then j else i)))
  | _ => none
theorem cf_min2 (hc : X.calm = true) : CallF X (.builtin "min") kMin2 := ⟨_, call_min2 hc, by
  intro σ xs res vs ρ F H rs pk e Q q
  unfold kMin2 at e
  split at e
  · cases e
    obtain ⟨v, u, rfl, h1, h2⟩ := pk.two
    cases h1.int
    cases h2.int
    exact ⟨_, _, rfl, q.dat rs (.int _)⟩
  · cases e⟩
def kInt : List D → Option R
  | [.int i] => some (.d (.int i))
  | [.bl b] => some (.d (.int (if b then 1 else 0)))
  | [.str z] => if z.length ≤ 640 then (PySem.intText? z).map fun n => .d (.int n) else none
  | _ => none
theorem cf_int : CallF X (.type "int") kInt := ⟨_, CallR.or call_int1 call_int_str, by
  intro σ xs res vs ρ F H rs pk e Q q
  unfold kInt at e
  split at e
  · cases e
    obtain ⟨v, rfl, h⟩ := pk.one
    cases h.int
    exact .inl (.inl ⟨_, rfl, q.dat rs (.int _)⟩)
  · cases e
    obtain ⟨v, rfl, h⟩ := pk.one
    cases h.bl
    exact .inl (.inr ⟨_, rfl, q.dat rs (.int _)⟩)
  · rename_i z
    split at e
    · obtain ⟨v, rfl, h⟩ := pk.one
      cases h.str
      cases ez : PySem.intText? z with
      | none => rw [ez] at e; cases e
      | some n =>
        rw [ez] at e
        cases e
        exact .inr ⟨z, n, rfl, ez, by assumption, q.dat rs (.int _)⟩
    · cases e
  · cases e⟩
def kBool : List D → Option R
  | [.int i] => some (.d (.bl (i != 0)))
  | [.bl b] => some (.d (.bl b))
  | _ => none
theorem cf_bool : CallF X (.type "bool") kBool := ⟨_, call_bool1, by
  intro σ xs res vs ρ F H rs pk e Q q
  unfold kBool at e
  split at e
  · cases e
    obtain ⟨v, rfl, h⟩ := pk.one
    cases h.int
    exact (.inl ⟨_, rfl, q.dat rs (.bl _)⟩)
  · cases e
    obtain ⟨v, rfl, h⟩ := pk.one
    cases h.bl
    exact (.inr ⟨_, rfl, q.dat rs (.bl _)⟩)
  · cases e⟩
def kStr : List D → Option R
  | [.int i] => if i.natAbs.log2 < 1920 then some (.d (.str (toString i))) else none
  | _ => none
theorem cf_str : CallF X (.type "str") kStr := ⟨_, call_str_int, by
  intro σ xs res vs ρ F H rs pk e Q q
  unfold kStr at e
  split at e
  · split at e
    · cases e
      obtain ⟨v, rfl, h⟩ := pk.one
      cases h.int
      exact ⟨_, rfl, by assumption, q.dat rs (.str _)⟩
    · cases e
  · cases e⟩
/-! list, tuple -/
def kList : List D → Option R
  | [.lst ds] => some (.o (.lst ds))
  | [.tup ds] => some (.o (.lst ds))
  | [.src ns] => some (.o (.lst (ns.map .int)))
  | _ => none
theorem cf_list : CallF X (.type "list") kList := ⟨_, call_list_of, by
  intro σ xs res vs ρ F H rs pk e Q q
  unfold kList at e
  split at e
  · cases e
    obtain ⟨v, rfl, h⟩ := pk.one
    obtain ⟨a, ys, rfl, ha, ra⟩ := h.lst rs.sub
    exact ⟨_, _, rfl, .inl (SqL.of ha), FinR.lst q rs ra⟩
  · cases e
    obtain ⟨v, rfl, h⟩ := pk.one
    obtain ⟨a, ys, rfl, ha, ra⟩ := h.tup rs.sub
    exact ⟨_, _, rfl, .inr ha, FinR.lst q rs ra⟩
  · cases e
    obtain ⟨v, rfl, h⟩ := pk.one
    obtain ⟨a, rfl, ha⟩ := h.src rs.sub
    exact ⟨_, _, rfl, .inl ha, FinR.lst q rs (Reps.nums _)⟩
  · cases e⟩
def kTuple : List D → Option R
  | [.lst ds] => some (.d (.tup ds))
  | [.tup ds] => some (.d (.tup ds))
  | [.src ns] => some (.d (.tup (ns.map .int)))
  | _ => none
theorem cf_tuple : CallF X (.type "tuple") kTuple := ⟨_, call_tuple_of, by
  intro σ xs res vs ρ F H rs pk e Q q
  unfold kTuple at e
  split at e
  · cases e
    obtain ⟨v, rfl, h⟩ := pk.one
    obtain ⟨a, ys, rfl, ha, ra⟩ := h.lst rs.sub
    exact ⟨_, _, rfl, .inl ⟨SqL.of ha, FinR.tup q rs ra⟩⟩
  · cases e
    obtain ⟨v, rfl, h⟩ := pk.one
    obtain ⟨a, ys, rfl, ha, ra⟩ := h.tup rs.sub
    refine ⟨_, _, rfl, .inr ⟨ha, q.dat rs ?_⟩⟩
    rcases h with r | ⟨p, _, _, o, _, w⟩
    · exact r
    · cases o <;> exact w.elim
  · cases e
    obtain ⟨v, rfl, h⟩ := pk.one
    obtain ⟨a, rfl, ha⟩ := h.src rs.sub
    exact ⟨_, _, rfl, .inl ⟨ha, FinR.tup q rs (Reps.nums _)⟩⟩
  · cases e⟩
/-! sum, any, all -/
def intsOf : List D → Option (List Int)
  | [] => some []
  | .int i :: r => (intsOf r).map (i :: ·)
  | _ => none
def blsOf : List D → Option (List Bool)
  | [] => some []
  | .bl i :: r => (blsOf r).map (i :: ·)
  | _ => none
def strsOf : List D → Option (List Str)
  | [] => some []
  | .str i :: r => (strsOf r).map (i :: ·)
  | _ => none
theorem Reps.intsOf : ∀ {ds : List D} {vs : List V} {ns : List Int}, Reps K F ds vs → Dn.intsOf ds = some ns → vs = ns.map V.int
  | _, _, ns, .nil, e => by
    cases e
    rfl
  | d :: ds, v :: vs, ns, .cons a b, e => by
    cases a with
    | int i =>
      have e : (Dn.intsOf ds).map (i :: ·) = some ns := e
      cases q : Dn.intsOf ds with
      | none => rw [q] at e; cases e
      | some ms =>
        rw [q] at e
        cases e
        rw [Reps.intsOf b q]
        rfl
    | _ => cases e
theorem Reps.blsOf : ∀ {ds : List D} {vs : List V} {ns : List Bool}, Reps K F ds vs → Dn.blsOf ds = some ns → vs = ns.map V.bl
  | _, _, ns, .nil, e => by
    cases e
    rfl
  | d :: ds, v :: vs, ns, .cons a b, e => by
    cases a with
    | bl i =>
      have e : (Dn.blsOf ds).map (i :: ·) = some ns := e
      cases q : Dn.blsOf ds with
      | none => rw [q] at e; cases e
      | some ms =>
        rw [q] at e
        cases e
        rw [Reps.blsOf b q]
        rfl
    | _ => cases e
theorem Reps.strsOf : ∀ {ds : List D} {vs : List V} {ns : List Str}, Reps K F ds vs → Dn.strsOf ds = some ns → vs = ns.map V.str
  | _, _, ns, .nil, e => by
    cases e
    rfl
  | d :: ds, v :: vs, ns, .cons a b, e => by
    cases a with
    | str i =>
      have e : (Dn.strsOf ds).map (i :: ·) = some ns := e
      cases q : Dn.strsOf ds with
      | none => rw [q] at e; cases e
      | some ms =>
        rw [q] at e
        cases e
        rw [Reps.strsOf b q]
        rfl
    | _ => cases e
def kSum : List D → Option R
  | [.lst ds] => (intsOf ds).map fun ns => .d (.int ns.sum)
  | [.src ns] => some (.d (.int ns.sum))
  | _ => none
theorem cf_sum (hc : X.calm = true) : CallF X (.builtin "sum") kSum := ⟨_, cr_sum hc, by
  intro σ xs res vs ρ F H rs pk e Q q
  unfold kSum at e
  split at e
  · rename_i ds
    obtain ⟨v, rfl, h⟩ := pk.one
    obtain ⟨a, ys, rfl, ha, ra⟩ := h.lst rs.sub
    cases z : intsOf ds with
    | none => rw [z] at e; cases e
    | some ns =>
      rw [z] at e
      cases e
      have := ra.intsOf z
      subst this
      exact ⟨_, _, rfl, SqL.of ha, q.dat rs (.int _)⟩
  · cases e
    obtain ⟨v, rfl, h⟩ := pk.one
    obtain ⟨a, rfl, ha⟩ := h.src rs.sub
    exact ⟨_, _, rfl, ha, q.dat rs (.int _)⟩
  · cases e⟩
def kAny : List D → Option R
  | [.lst ds] => (blsOf ds).map fun ns => .d (.bl (ns.any id))
  | _ => none
theorem cf_any (hc : X.calm = true) : CallF X (.builtin "any") kAny := ⟨_, cr_any hc, by
  intro σ xs res vs ρ F H rs pk e Q q
  unfold kAny at e
  split at e
  · rename_i ds
    obtain ⟨v, rfl, h⟩ := pk.one
    obtain ⟨a, ys, rfl, ha, ra⟩ := h.lst rs.sub
    cases z : blsOf ds with
    | none => rw [z] at e; cases e
    | some ns =>
      rw [z] at e
      cases e
      have := ra.blsOf z
      subst this
      exact ⟨_, _, rfl, SqL.of ha, q.dat rs (.bl _)⟩
  · cases e⟩
def kAll : List D → Option R
  | [.lst ds] => (blsOf ds).map fun ns => .d (.bl (ns.all id))
  | _ => none
theorem cf_all (hc : X.calm = true) : CallF X (.builtin "all") kAll := ⟨_, cr_all hc, by
  intro σ xs res vs ρ F H rs pk e Q q
  unfold kAll at e
  split at e
  · rename_i ds
    obtain ⟨v, rfl, h⟩ := pk.one
    obtain ⟨a, ys, rfl, ha, ra⟩ := h.lst rs.sub
    cases z : blsOf ds with
    | none => rw [z] at e; cases e
    | some ns =>
      rw [z] at e
      cases e
      have := ra.blsOf z
      subst this
      exact ⟨_, _, rfl, SqL.of ha, q.dat rs (.bl _)⟩
  · cases e⟩
/-! repr -/
theorem cr_repr (hG : X.A.guards = some []) (hu : X.A.units + 200 < cLine) : CallR X (.builtin "repr") (fun xs H Q => ∃ v d, xs = [v] ∧ Dp X.K H v d ∧ d.showable = true ∧ d.hasDict = false ∧ d.depth < 100 ∧ d.shown.length ≤ sizeLine ∧ Q (.str d.shown) H) := by
  intro pins s σ H xs us Q I rv h
  obtain ⟨v, d, rfl, hd, hs, hn, hp, hz, q⟩ := h
  obtain ⟨u, rfl, r⟩ := rv.one
  have fin : ∀ (t tk : Nat), EP X pins σ Q (.str d.shown t) { s with toks := tk } := fun t tk => ⟨.str d.shown, H, I.tok _, ⟨t, rfl⟩, q⟩
  cases hd with
  | non =>
    cases r
    exact PySem.P.repr_of_none (fin _ _)
  | bl b =>
    cases r
    exact PySem.P.repr_of_bool (fin _ _)
  | int i =>
    obtain ⟨t, rfl⟩ := r
    exact PySem.P.repr_of_int (by simpa [PyData.showable] using hs) (fin _ _)
  | str z =>
    obtain ⟨t, rfl⟩ := r
    exact PySem.P.repr_of_str (fin _ _) hz
  | lst h1 h2 =>
    cases r
    obtain ⟨as, rd⟩ := Dp.reads I _ _ _ (.lst h1 h2) rfl
    exact PySem.repr_of_reads' rd hs (PyData.noDict_hsm hn) hG (by omega) (fun _ _ e => e) (fun h' t tk k => ⟨.str _, H, I.kept k, ⟨t, rfl⟩, q⟩) hz
  | tup h1 h2 =>
    cases r
    obtain ⟨as, rd⟩ := Dp.reads I _ _ _ (.tup h1 h2) rfl
    exact PySem.repr_of_reads' rd hs (PyData.noDict_hsm hn) hG (by omega) (fun _ _ e => e) (fun h' t tk k => ⟨.str _, H, I.kept k, ⟨t, rfl⟩, q⟩) hz
def kRepr : List D → Option R
  | [x] => if isPy x = true ∧ (toPy x).showable = true ∧ (toPy x).hasDict = false ∧ (toPy x).depth < 100 ∧ (toPy x).shown.length ≤ sizeLine then some (.d (.str (toPy x).shown)) else none
  | _ => none
theorem cf_repr (hG : X.A.guards = some []) (hu : X.A.units + 200 < cLine) : CallF X (.builtin "repr") kRepr := ⟨_, cr_repr hG hu, by
  intro σ xs res vs ρ F H rs pk e Q q
  unfold kRepr at e
  split at e
  · split at e
    · rename_i c
      cases e
      obtain ⟨v, rfl, h⟩ := pk.one
      exact ⟨v, _, rfl, h.dp rs.sub c.1, c.2.1, c.2.2.1, c.2.2.2.1, c.2.2.2.2, q.dat rs (.str _)⟩
    · cases e
  · cases e⟩
end
end
end Dn
end

section
set_option Elab.async false
set_option linter.all false
set_option maxRecDepth 100000
set_option maxHeartbeats 4000000
/-! Dn: products; methods of lists and texts. -/
namespace Dn
open PySem PySem.Spec PyProof.Rows L2
theorem tuple_mulSame (l : Addr) (items : Array Value) (n : Nat) (dd : Option Addr) (sl : Array (Option Value)) (x : Int) (u : Tok) (c0 : (decide (x < -(2 ^ 63)) || decide (x ≥ 2 ^ 63)) = false) (c1 : (items.isEmpty || x == 1) = true) :
    Meets (Builtin.«tuple.__mul__» ⟨[.ref l, .int x u], []⟩) (fun _ R s => s.heap.get? l = some { cls := .type "tuple", dict := dd, data := .seq items n, slots := sl } ∧
      R (.ok (.ret (Value.ref l))) s) :=
  .of_wp fun prog w A R s h => by
    obtain ⟨hp, g, d, tk, os⟩ := s
    obtain ⟨hl, h⟩ := h
    have f1 := AutoSeq1.idx_int
    wp_walk using wpAny_loadPart' hl
    repeat (first
      | (refine wpAny_ite_false (decide_eq_false (by rw [c0]; exact Bool.false_ne_true)) ?_; wp_walk using wpAny_loadPart' hl)
      | (refine wpAny_ite_true (decide_eq_true c1) ?_; wp_walk using wpAny_loadPart' hl))
    exact ⟨_, rfl, h⟩
theorem tuple_mulNone (l : Addr) (items : Array Value) (n : Nat) (dd : Option Addr) (sl : Array (Option Value)) (x : Int) (u : Tok) (c0 : (decide (x < -(2 ^ 63)) || decide (x ≥ 2 ^ 63)) = false) (c1 : (items.isEmpty || x == 1) = false) (c2 : (decide (x ≤ 0) || items.isEmpty) = true) :
    Meets (Builtin.«tuple.__mul__» ⟨[.ref l, .int x u], []⟩) (fun _ R s => s.heap.get? l = some { cls := .type "tuple", dict := dd, data := .seq items n, slots := sl } ∧
      R (.ok (.ret (Value.ref s.heap.objs.size))) { s with heap := s.heap.push { cls := Value.type "tuple", data := Data.seq #[] }, toks := s.toks }) :=
  .of_wp fun prog w A R s h => by
    obtain ⟨hp, g, d, tk, os⟩ := s
    obtain ⟨hl, h⟩ := h
    have f1 := AutoSeq1.idx_int
    wp_walk using wpAny_loadPart' hl
    repeat (first
      | (refine wpAny_ite_false (decide_eq_false (by rw [c0]; exact Bool.false_ne_true)) ?_; wp_walk using wpAny_loadPart' hl)
      | (refine wpAny_ite_false (decide_eq_false (by rw [c1]; exact Bool.false_ne_true)) ?_; wp_walk using wpAny_loadPart' hl)
      | (refine wpAny_ite_true (decide_eq_true c2) ?_; wp_walk using wpAny_loadPart' hl))
    exact ⟨_, rfl, h⟩
section
variable {X : Cx}
/-- t * k, k at most 1 or t empty -/
def rRepT1 (K : Fg) : R2 := fun x y H Q => ∃ l k xs, x = .ref l ∧ y = .int k ∧ SqT K H l xs ∧ -(2 ^ 63) ≤ k ∧ k < 2 ^ 63 ∧ (xs = [] ∨ k = 1 → Q (.ref l) H) ∧ (xs ≠ [] → k ≤ 0 → ∀ p, H p = none → Q (.ref p) (upd H p (.tup []))) ∧ (xs = [] ∨ k ≤ 1)
theorem op_repT1 : OpR X (binaryOp .Mult) (rRepT1 X.K) := by
  intro pins s σ H x y v u Q I rx ry h
  obtain ⟨l, k, xs, rfl, rfl, hT, h1, h2, q1, q2, hc⟩ := h
  cases rx
  obtain ⟨t, rfl⟩ := ry
  obtain ⟨its, r, ⟨⟨cls, dd, data, sl⟩, ho, hcl, n, hd⟩, hs⟩ := I.tuple hT
  simp only at hcl hd
  subst hcl hd
  have c0 : (decide (k < -(2 ^ 63)) || decide (k ≥ 2 ^ 63)) = false := by
    rw [decide_eq_false (by omega), decide_eq_false (by omega)] <;> rfl
  have hem : its.toArray.isEmpty = decide (xs = []) := by
    cases r with
    | nil => rfl
    | cons a b => rfl
  by_cases c : xs = [] ∨ k = 1
  · have c1 : (its.toArray.isEmpty || k == 1) = true := by
      rw [hem]
      rcases c with c | c
      · simp [c]
      · simp [c]
    exact wpAny_binaryOp_repeat_ref (T := "tuple") (U := "int") (by decide) ⟨_, ho, rfl⟩ (fun s' => typeIs_int s' k t) noFill_tuple_mul F.fills_int_mul F.slot_int_rmul repeat_tuple F.slot_int_index.lookup
      (call_meets F.slot_int_rmul (typeIs_int s k t) F.entry_int_rmul (F.args_int_rmul_2 _ _) (int_rmul_tuple k t l its.toArray n dd sl)
        ⟨ho, rfl, ⟨_, ho, rfl⟩, call_meets F.slot_tuple_mul ⟨_, ho, rfl⟩ F.entry_tuple_mul (F.args_tuple_mul_2 _ _) (tuple_mulSame l its.toArray n dd sl k t c0 c1) ⟨ho, .ref l, H, I, rfl, q1 c⟩⟩)
  · have hx : xs ≠ [] := fun z => c (.inl z)
    have hk1 : k ≠ 1 := fun z => c (.inr z)
    have hk : k ≤ 0 := by
      rcases hc with z | z
      · exact absurd z hx
      · omega
    have c1 : (its.toArray.isEmpty || k == 1) = false := by
      rw [hem, decide_eq_false hx, Bool.false_or]
      exact beq_eq_false_iff_ne.mpr hk1
    have c2 : (decide (k ≤ 0) || its.toArray.isEmpty) = true := by
      rw [decide_eq_true hk]
      rfl
    refine wpAny_binaryOp_repeat_ref (T := "tuple") (U := "int") (by decide) ⟨_, ho, rfl⟩ (fun s' => typeIs_int s' k t) noFill_tuple_mul F.fills_int_mul F.slot_int_rmul repeat_tuple F.slot_int_index.lookup
      (call_meets F.slot_int_rmul (typeIs_int s k t) F.entry_int_rmul (F.args_int_rmul_2 _ _) (int_rmul_tuple k t l its.toArray n dd sl)
        ⟨ho, rfl, ⟨_, ho, rfl⟩, call_meets F.slot_tuple_mul ⟨_, ho, rfl⟩ F.entry_tuple_mul (F.args_tuple_mul_2 _ _) (tuple_mulNone l its.toArray n dd sl k t c0 c1 c2) ⟨ho, ?_⟩⟩)
    refine ⟨.ref s.heap.objs.size, _, I.laid (t' := s.toks) (o := .tup []) (fun b ob q => Heap.get?_push_of_some _ q) (Nat.le_refl _) ?_, rfl, q2 hx hk _ (I.hok.fresh (Nat.le_refl _))⟩
    exact ⟨Nat.zero_le _, _, .nil, IsTup.new _ _⟩
/-- text * k -/
def repS (z : Str) (k : Nat) : Str := ⟨(List.replicate k z.cps).foldl (· ++ ·) #[]⟩
theorem repS_one (z : Str) : repS z 1 = z := by
  unfold repS
  simp
theorem repS_empty {z : Str} (h : z.length = 0) : ∀ k, repS z k = z := by
  obtain ⟨c⟩ := z
  have hc : c = #[] := by
    have h : c.size = 0 := h
    simpa using h
  subst hc
  intro k
  unfold repS
  induction k with
  | zero => rfl
  | succ k ih => rw [List.replicate_succ, List.foldl_cons]; exact ih
theorem foldl_size (z : Array Nat) : ∀ (k : Nat) (acc : Array Nat), ((List.replicate k z).foldl (· ++ ·) acc).size = acc.size + z.size * k
  | 0, acc => by simp
  | k + 1, acc => by
    rw [List.replicate_succ, List.foldl_cons, foldl_size z k, Array.size_append, Nat.mul_succ]
    omega
theorem repS_length (z : Str) (k : Nat) : (repS z k).length = z.length * k := by
  unfold repS
  show ((List.replicate k z.cps).foldl (· ++ ·) #[]).size = _
  rw [foldl_size]
  show 0 + z.cps.size * k = z.cps.size * k
  omega
theorem op_mulS : OpR X (binaryOp .Mult) (fun x y H Q => ∃ z k, x = .str z ∧ y = .int k ∧ -(2 ^ 63) ≤ k ∧ k < 2 ^ 63 ∧ z.length * k.toNat ≤ sizeLine ∧ z.length ≤ sizeLine ∧ Q (.str (repS z k.toNat)) H) := by
  intro pins s σ H x y v u Q I rx ry h
  obtain ⟨z, k, rfl, rfl, h1, h2, hz, hz1, q⟩ := h
  obtain ⟨t, rfl⟩ := rx
  obtain ⟨t', rfl⟩ := ry
  have fin : ∀ (y : Str) (a b : Nat), y = repS z k.toNat → EP X pins σ Q (.str y a) { s with toks := b } := fun y a b e => ⟨.str y, H, I.tok _, ⟨a, rfl⟩, by rw [e]; exact q⟩
  have c0 : (decide (k < -(2 ^ 63 : Int)) || decide (k ≥ 2 ^ 63)) = false := by
    rw [decide_eq_false (by omega), decide_eq_false (by omega)] <;> rfl
  have hS : sizeLine = 16777216 := rfl
  refine PySem.P.mul_str c0 (fun hk _ => ?_) (fun hk _ => ?_) ?_
  · intro hgt
    have hk0 : 0 < k := by omega
    have e : ((z.length : Nat) : Int) * k ≤ 16777216 := by
      have : (z.length : Int) * (k.toNat : Int) ≤ 16777216 := by
        have h5 : z.length * k.toNat ≤ 16777216 := hz
        rw [← Int.natCast_mul]
        exact Int.ofNat_le.mpr h5
      rwa [Int.toNat_of_nonneg (by omega)] at this
    have := (Int.lt_iff_add_one_le.mp hgt)
    have h3 : ((2 ^ 63 - 1) / k + 1) * k ≤ (z.length : Int) * k := Int.mul_le_mul_of_nonneg_right this (by omega)
    have h4 : (2 ^ 63 - 1 : Int) < ((2 ^ 63 - 1) / k + 1) * k := Int.lt_ediv_add_one_mul_self _ hk0
    omega
  · unfold Builtin.Str.tooLong
    exact decide_eq_false (by omega)
  · by_cases hk : k < 1
    · rw [if_pos hk]
      refine ⟨by rw [hS]; exact Nat.zero_le _, fin _ _ _ ?_⟩
      have : k.toNat = 0 := by omega
      rw [this]
      rfl
    · rw [if_neg hk]
      by_cases hc : (k == 1 || z.length == 0) = true
      · rw [if_pos hc]
        refine fin z t s.toks ?_
        rw [Bool.or_eq_true] at hc
        rcases hc with hc | hc
        · have : k = 1 := eq_of_beq hc
          subst this
          exact (repS_one z).symm
        · exact (repS_empty (eq_of_beq hc) _).symm
      · rw [if_neg hc]
        refine ⟨?_, fin _ _ _ rfl⟩
        show (repS z k.toNat).length ≤ sizeLine
        rw [repS_length]
        exact hz
end
section
variable {K : Fg} {mg : MG} {W : WX} {pr : Nat → Bool} {σ σ1 σ' : L2.St} {ρ ρ1 ρ' : Env} {F F1 F' H H1 H' H0 : Hp} {v u : V} {f fa fb : DE} {x y : D}
theorem Reps.flat_rep {ds : List D} {vs : List V} (r : Reps K F ds vs) : ∀ k : Nat, Reps K F (List.replicate k ds).flatten (List.replicate k vs).flatten
  | 0 => .nil
  | k + 1 => by
    rw [List.replicate_succ, List.replicate_succ, List.flatten_cons, List.flatten_cons]
    exact r.append (Reps.flat_rep r k)
def smallI (i : Int) : Bool := decide (-18446744073709551616 < i ∧ i < 18446744073709551616)
def kMul : D → D → Option R
  | .int i, .int j => if smallI i || smallI j then some (.d (.int (i * j))) else none
  | .str z, .int k => if -9223372036854775808 ≤ k ∧ k < 9223372036854775808 ∧ z.length * k.toNat ≤ sizeLine ∧ z.length ≤ sizeLine then some (.d (.str (repS z k.toNat))) else none
  | .tup ds, .int k => if -9223372036854775808 ≤ k ∧ k ≤ 1000 ∧ ds.length ≤ 1000 then some (.d (.tup (List.replicate k.toNat ds).flatten)) else none
  | .lst ds, .int k => if -9223372036854775808 ≤ k ∧ k < 9223372036854775808 ∧ ds.length * k.toNat ≤ sizeLine then some (.o (.lst (List.replicate k.toNat ds).flatten)) else none
  | _, _ => none
theorem flat_nil {α : Type} : ∀ k : Nat, (List.replicate k ([] : List α)).flatten = []
  | 0 => rfl
  | k + 1 => by
    rw [List.replicate_succ, List.flatten_cons, flat_nil k]
    rfl
theorem pe_mulD {X : Cx} {a b : Expr} {pos : Pos} (ha : PE X a (LE X.K X.mg W fa)) (hb : PE X b (LE X.K X.mg W fb)) : PE X (.BinOp a .Mult b pos) (LE X.K X.mg W (o2 fa fb kMul)) :=
  PE.imp (pe_op (OpR.or op_mul (OpR.or op_mulS (OpR.or op_repT (OpR.or op_repT1 op_rep)))) ha hb) fun _ _ _ h => LE.two h fun x y res v u ρ F H rs hx hy e q => by
    unfold kMul at e
    split at e
    · split at e
      · rename_i hc
        cases e
        cases hx.int
        cases hy.int
        refine .inl ⟨_, _, rfl, rfl, ?_, q.dat rs (.int _)⟩
        unfold smallI at hc
        rw [Bool.or_eq_true] at hc
        rcases hc with hc | hc
        · have := of_decide_eq_true hc
          exact .inl ⟨by omega, by omega⟩
        · have := of_decide_eq_true hc
          exact .inr ⟨by omega, by omega⟩
      · cases e
    · split at e
      · rename_i hc
        cases e
        cases hx.str
        cases hy.int
        exact .inr (.inl ⟨_, _, rfl, rfl, by have := hc.1; omega, by have := hc.2.1; omega, hc.2.2.1, hc.2.2.2, q.dat rs (.str _)⟩)
      · cases e
    · rename_i ds k
      split at e
      · rename_i hc
        cases e
        have hx' := hx.tupR
        obtain ⟨a, xs, rfl, ha, ra⟩ := hx.tup rs.sub
        cases hy.int
        have b1 : -(2 ^ 63) ≤ k := by have := hc.1; omega
        have b2 : k < 2 ^ 63 := by have := hc.2.1; omega
        by_cases hz : xs = [] ∨ k ≤ 1
        · refine .inr (.inr (.inr (.inl ⟨a, k, xs, rfl, rfl, ha, b1, b2, fun c => ?_, fun _ c => ?_, hz⟩)))
          · have e1 : (List.replicate k.toNat ds).flatten = ds := by
              rcases c with c | c
              · subst c
                cases ra
                exact flat_nil _
              · subst c
                simp
            rw [e1] at q
            exact q.dat rs hx'
          · have e1 : k.toNat = 0 := by omega
            rw [e1] at q
            exact FinR.tup q rs .nil
        · have z1 : xs ≠ [] := fun z => hz (.inl z)
          have z2 : 2 ≤ k := by
            have : ¬ k ≤ 1 := fun z => hz (.inr z)
            omega
          exact .inr (.inr (.inl ⟨a, k, xs, rfl, rfl, ha, z1, z2, hc.2.1, by rw [← ra.length]; exact hc.2.2, FinR.tup q rs (ra.flat_rep _)⟩))
      · cases e
    · split at e
      · rename_i hc
        cases e
        obtain ⟨a, xs, rfl, ha, ra⟩ := hx.lst rs.sub
        cases hy.int
        exact .inr (.inr (.inr (.inr ⟨a, _, xs, rfl, rfl, ha, by have := hc.1; omega, by have := hc.2.1; omega, by rw [← ra.length]; exact hc.2.2, FinR.lst q rs (ra.flat_rep _)⟩)))
      · cases e
    · cases e
/-! ### methods that change nothing -/
def MtF (X : Cx) (T : String) (name : Str) (k : D → List D → Option R) : Prop := ∃ (id : String) (r : V → List V → Hp → VK → Prop), PlainAttrs T ∧ Slot T name id ∧ typeOf (.builtin id) = pure (.type "method_descriptor") ∧ MtR X id r ∧
  ∀ {σ : L2.St} x xs res v vs ρ F H, RS X.K σ ρ F H → PK X.K F H x v → PKs X.K F H xs vs → k x xs = some res → ∀ Q, FinR X.K σ ρ F H res Q → r v vs H Q
/-- methods that change a list of one's own -/
def OwF (X : Cx) (name : Str) (k : List D → List D → Option (List D × D)) : Prop := ∃ (id : String) (r : V → List V → Hp → VK → Prop), Slot "list" name id ∧ typeOf (.builtin id) = pure (.type "method_descriptor") ∧ MtR X id r ∧
  ∀ ds xs ys d p us vs F H1, H1 p = some (.lst us) → Reps X.K F ds us → Reps X.K F xs vs → Sub F H1 → k ds xs = some (ys, d) → ∀ Q : VK, (∀ ws w, Reps X.K F ys ws → Rep X.K F d w → Q w (upd H1 p (.lst ws))) → r (.ref p) vs H1 Q
section
variable {X : Cx} {o e : Expr} {es : List Expr} {fs : List DE} {T : String} {name : Str} {apos cpos : Pos} {k : D → List D → Option R} {ko : List D → List D → Option (List D × D)}
theorem pe_mD (M : MtF X T name k) (ho : PE X o (LE X.K X.mg W f)) (ha : PA X (e :: es) (LA X.K X.mg W fs)) (hbase : attributeBase o name X.env (eval o X.env) = eval o X.env := by rfl)
    (hfew : ((backTo cpos (starEach (e :: es) X.env)).all (fun x => !x.1) && (backToKw cpos (keywordEach [] X.env)).all (fun x => x.1.isSome) && decide ((e :: es).length + ([] : List Keyword).length + (if ([] : List Keyword).isEmpty then 0 else 1) < 30)) = true := by rfl)
    (hline : (apos.endLine == cpos.line) = true := by rfl) (hs : starEach (e :: es) X.env = (false, eval e X.env) :: starEach es X.env := by rfl) (hplain : (backTo cpos (starEach es X.env)).any (·.1) = false := by rfl) :
    PE X (.Call (.Attribute o name apos) (e :: es) [] cpos) (LE X.K X.mg W (mR T f fs k)) := by
  obtain ⟨id, r, pa, slot, ty, M1, M2⟩ := M
  exact PE.imp (pe_bm pa slot ty M1 ho ha hbase hfew hline hs hplain) fun _ _ _ h => LE.mth h fun x xs res v vs ρ F H rs hx hy e q => M2 x xs res v vs ρ F H rs hx hy e _ q
theorem pe_m0D (M : MtF X T name k) (ho : PE X o (LE X.K X.mg W f)) (hbase : attributeBase o name X.env (eval o X.env) = eval o X.env := by rfl) (hline : (apos.endLine == cpos.line) = true := by rfl) :
    PE X (.Call (.Attribute o name apos) [] [] cpos) (LE X.K X.mg W (mR T f [] k)) := by
  obtain ⟨id, r, pa, slot, ty, M1, M2⟩ := M
  exact PE.imp (pe_bm0 pa slot ty M1 ho hbase hline) fun _ _ _ h => LE.mth0 h fun x xs res v vs ρ F H rs hx hy e q => M2 x xs res v vs ρ F H rs hx hy e _ q
theorem pe_oD (M : OwF X name ko) (ho : PE X o (LE X.K X.mg W f)) (ha : PA X (e :: es) (LA X.K X.mg W fs)) (hbase : attributeBase o name X.env (eval o X.env) = eval o X.env := by rfl)
    (hfew : ((backTo cpos (starEach (e :: es) X.env)).all (fun x => !x.1) && (backToKw cpos (keywordEach [] X.env)).all (fun x => x.1.isSome) && decide ((e :: es).length + ([] : List Keyword).length + (if ([] : List Keyword).isEmpty then 0 else 1) < 30)) = true := by rfl)
    (hline : (apos.endLine == cpos.line) = true := by rfl) (hs : starEach (e :: es) X.env = (false, eval e X.env) :: starEach es X.env := by rfl) (hplain : (backTo cpos (starEach es X.env)).any (·.1) = false := by rfl) :
    PE X (.Call (.Attribute o name apos) (e :: es) [] cpos) (LE X.K X.mg W (mO f fs ko)) := by
  obtain ⟨id, r, slot, ty, M1, M2⟩ := M
  exact PE.imp (pe_bm PySem.F.plainAttrs_list slot ty M1 ho ha hbase hfew hline hs hplain) fun _ _ _ h => LE.own h fun ds xs ys d p us vs F H1 h1 h2 h3 h4 e q => M2 ds xs ys d p us vs F H1 h1 h2 h3 h4 e _ q
theorem pe_o0D (M : OwF X name ko) (ho : PE X o (LE X.K X.mg W f)) (hbase : attributeBase o name X.env (eval o X.env) = eval o X.env := by rfl) (hline : (apos.endLine == cpos.line) = true := by rfl) :
    PE X (.Call (.Attribute o name apos) [] [] cpos) (LE X.K X.mg W (mO f [] ko)) := by
  obtain ⟨id, r, slot, ty, M1, M2⟩ := M
  exact PE.imp (pe_bm0 PySem.F.plainAttrs_list slot ty M1 ho hbase hline) fun _ _ _ h => LE.own0 h fun ds xs ys d p us vs F H1 h1 h2 h3 h4 e q => M2 ds xs ys d p us vs F H1 h1 h2 h3 h4 e _ q
end
section
variable {X : Cx}
def oAppend : List D → List D → Option (List D × D)
  | ds, [x] => if ds.length < sizeLine then some (ds ++ [x], .non) else none
  | _, _ => none
theorem ow_append : OwF X "append" oAppend := ⟨_, _, PySem.F.slot_list_append, PySem.F.type_list_append, mt_append, by
  intro ds xs ys d p us vs F H1 h1 h2 h3 h4 e Q q
  unfold oAppend at e
  split at e
  · split at e
    · cases e
      obtain ⟨v, rfl, r⟩ := h3.one
      exact ⟨p, us, v, rfl, rfl, h1, by rw [← h2.length]; assumption, q _ _ (h2.append (.cons r .nil)) .non⟩
    · cases e
  · cases e⟩
def oExtend : List D → List D → Option (List D × D)
  | ds, [.lst es] => if ds.length + es.length ≤ sizeLine then some (ds ++ es, .non) else none
  | _, _ => none
theorem ow_extend : OwF X "extend" oExtend := ⟨_, _, PySem.F.slot_list_extend, PySem.F.type_list_extend, mt_extend, by
  intro ds xs ys d p us vs F H1 h1 h2 h3 h4 e Q q
  unfold oExtend at e
  split at e
  · split at e
    · cases e
      obtain ⟨v, rfl, r⟩ := h3.one
      cases r with
      | lst r1 r2 => exact ⟨p, _, us, _, rfl, rfl, h1, h4 _ _ r1, by rw [← h2.length, ← r2.length]; assumption, q _ _ (h2.append r2) .non⟩
    · cases e
  · cases e⟩
def oPop : List D → List D → Option (List D × D)
  | ds, [] => (ds[ds.length - 1]?).map fun x => (ds.dropLast, x)
  | ds, [.int i] => if -9223372036854775808 ≤ i ∧ i < 9223372036854775808 then (match seqIndex? i ds.length with
    | some j => (ds[j]?).map fun x => (ds.eraseIdx j, x)
    | none => none) else none
  | _, _ => none
theorem Reps.dropLast : ∀ {ds : List D} {us : List V}, Reps K F ds us → Reps K F ds.dropLast us.dropLast
  | _, _, .nil => .nil
  | _, _, .cons _ .nil => .nil
  | _, _, .cons a (.cons b c) => .cons a (Reps.dropLast (.cons b c))
theorem ow_pop : OwF X "pop" oPop := ⟨_, _, PySem.F.slot_list_pop, PySem.F.type_list_pop, MtR.or mt_pop mt_popAt, by
  intro ds xs ys d p us vs F H1 h1 h2 h3 h4 e Q q
  unfold oPop at e
  split at e
  · cases h3.zero
    cases z : ds[ds.length - 1]? with
    | none => rw [z] at e; cases e
    | some x =>
      rw [z] at e
      cases e
      obtain ⟨v, hv, r⟩ := h2.get z
      exact .inl ⟨p, us, v, rfl, rfl, h1, by rw [← h2.length]; exact hv, q _ _ h2.dropLast r⟩
  · rename_i i
    split at e
    · rename_i hc
      obtain ⟨v, rfl, r⟩ := h3.one
      cases r
      cases z : seqIndex? i ds.length with
      | none => rw [z] at e; cases e
      | some j =>
        rw [z] at e
        dsimp only at e
        cases w : ds[j]? with
        | none => rw [w] at e; cases e
        | some x =>
          rw [w] at e
          cases e
          obtain ⟨v, hv, r⟩ := h2.get w
          exact .inr ⟨p, us, i, j, v, rfl, rfl, h1, by have := hc.1; omega, by have := hc.2; omega, by rw [← h2.length]; exact z, hv, q _ _ (h2.eraseIdx j) r⟩
    · cases e
  · cases e⟩
def oInsert : List D → List D → Option (List D × D)
  | ds, [.int i, x] => if ds.length < sizeLine ∧ 0 ≤ i ∧ i < 9223372036854775808 then some (ds.take i.toNat ++ [x] ++ ds.drop i.toNat, .non) else none
  | _, _ => none
theorem ow_insert : OwF X "insert" oInsert := ⟨_, _, PySem.F.slot_list_insert, PySem.F.type_list_insert, mt_insert, by
  intro ds xs ys d p us vs F H1 h1 h2 h3 h4 e Q q
  unfold oInsert at e
  split at e
  · split at e
    · rename_i hc
      cases e
      obtain ⟨v, u, rfl, r1, r2⟩ := h3.two
      cases r1
      exact ⟨p, us, _, u, rfl, rfl, h1, by rw [← h2.length]; exact hc.1, hc.2.1, by have := hc.2.2; omega, q _ _ (((h2.take _).append (.cons r2 .nil)).append (h2.drop _)) .non⟩
    · cases e
  · cases e⟩
def oClear : List D → List D → Option (List D × D)
  | ds, [] => some ([], .non)
  | _, _ => none
theorem ow_clear : OwF X "clear" oClear := ⟨_, _, PySem.F.slot_list_clear, PySem.F.type_list_clear, mt_clear, by
  intro ds xs ys d p us vs F H1 h1 h2 h3 h4 e Q q
  unfold oClear at e
  split at e
  · cases e
    cases h3.zero
    exact ⟨p, us, rfl, rfl, h1, q _ _ .nil .non⟩
  · cases e⟩
def oReverse : List D → List D → Option (List D × D)
  | ds, [] => some (ds.reverse, .non)
  | _, _ => none
theorem ow_reverse : OwF X "reverse" oReverse := ⟨_, _, PySem.F.slot_list_reverse, PySem.F.type_list_reverse, mt_reverse, by
  intro ds xs ys d p us vs F H1 h1 h2 h3 h4 e Q q
  unfold oReverse at e
  split at e
  · cases e
    cases h3.zero
    exact ⟨p, us, rfl, rfl, h1, q _ _ h2.reverse .non⟩
  · cases e⟩
/-! texts -/
def kSplit : D → List D → Option R
  | .str a, [.str b] => if (b.length == 0) = false ∧ a.length + 2 ≤ sizeLine then some (.o (.lst ((Txt.split a b).map .str))) else none
  | .str a, [] => if a.length + 2 ≤ sizeLine then some (.o (.lst ((Txt.words a).map .str))) else none
  | _, _ => none
theorem Reps.ofStrs : ∀ ys : List Str, Reps K F (ys.map .str) (ys.map V.str)
  | [] => .nil
  | y :: ys => .cons (.str y) (Reps.ofStrs ys)
theorem mf_split : MtF X "str" "split" kSplit := ⟨_, _, PySem.F.plainAttrs_str, PySem.F.slot_str_split, PySem.F.type_str_split, MtR.or mt_split mt_words, by
  intro σ x xs res v vs ρ F H rs hx hy e Q q
  unfold kSplit at e
  split at e
  · split at e
    · rename_i hc
      cases e
      cases hx.str
      obtain ⟨v, rfl, h⟩ := hy.one
      cases h.str
      exact .inl ⟨_, _, rfl, rfl, hc.1, hc.2, FinR.lst q rs (Reps.ofStrs _)⟩
    · cases e
  · split at e
    · rename_i hc
      cases e
      cases hx.str
      cases hy.zero
      exact .inr ⟨_, rfl, rfl, hc, FinR.lst q rs (Reps.ofStrs _)⟩
    · cases e
  · cases e⟩
def kJoin : D → List D → Option R
  | .str a, [.lst ds] => (match strsOf ds with
    | some ys => if (ys.map (·.length)).sum + ys.length * a.length ≤ 16777216 then some (.d (.str (Txt.join a ys))) else none
    | none => none)
  | .str a, [.tup ds] => (match strsOf ds with
    | some ys => if (ys.map (·.length)).sum + ys.length * a.length ≤ 16777216 then some (.d (.str (Txt.join a ys))) else none
    | none => none)
  | _, _ => none
theorem mf_join : MtF X "str" "join" kJoin := ⟨_, _, PySem.F.plainAttrs_str, PySem.F.slot_str_join, PySem.F.type_str_join, mt_join, by
  intro σ x xs res v vs ρ F H rs hx hy e Q q
  unfold kJoin at e
  split at e
  · rename_i a ds
    cases z : strsOf ds with
    | none => rw [z] at e; cases e
    | some ys =>
      rw [z] at e
      dsimp only at e
      split at e
      · rename_i hc
        cases e
        cases hx.str
        obtain ⟨v, rfl, h⟩ := hy.one
        obtain ⟨p, us, rfl, ha, ra⟩ := h.lst rs.sub
        have := ra.strsOf z
        subst this
        exact ⟨_, _, _, rfl, rfl, .inl (SqL.of ha), hc, q.dat rs (.str _)⟩
      · cases e
  · rename_i a ds
    cases z : strsOf ds with
    | none => rw [z] at e; cases e
    | some ys =>
      rw [z] at e
      dsimp only at e
      split at e
      · rename_i hc
        cases e
        cases hx.str
        obtain ⟨v, rfl, h⟩ := hy.one
        obtain ⟨p, us, rfl, ha, ra⟩ := h.tup rs.sub
        have := ra.strsOf z
        subst this
        exact ⟨_, _, _, rfl, rfl, .inr ha, hc, q.dat rs (.str _)⟩
      · cases e
  · cases e⟩
/-- text, text -/
def kS2 (g : Str → Str → D) : D → List D → Option R
  | .str a, [.str b] => some (.d (g a b))
  | _, _ => none
theorem mf2 {name : Str} {id : String} {g : Str → Str → D} {h : Str → Str → V} (slot : Slot "str" name id) (ty : typeOf (.builtin id) = pure (.type "method_descriptor"))
    (m : MtR X id (fun x xs H Q => ∃ a b, x = .str a ∧ xs = [.str b] ∧ Q (h a b) H)) (hg : ∀ F a b, Rep X.K F (g a b) (h a b)) : MtF X "str" name (kS2 g) := ⟨_, _, PySem.F.plainAttrs_str, slot, ty, m, by
  intro σ x xs res v vs ρ F H rs hx hy e Q q
  unfold kS2 at e
  split at e
  · cases e
    cases hx.str
    obtain ⟨v, rfl, h⟩ := hy.one
    cases h.str
    exact ⟨_, _, rfl, rfl, q.dat rs (hg _ _ _)⟩
  · cases e⟩
theorem mf_startswith : MtF X "str" "startswith" (kS2 fun a b => .bl (Txt.startswith a b)) := mf2 PySem.F.slot_str_startswith PySem.F.type_str_startswith mt_startswith fun _ _ _ => .bl _
theorem mf_endswith : MtF X "str" "endswith" (kS2 fun a b => .bl (Txt.endswith a b)) := mf2 PySem.F.slot_str_endswith PySem.F.type_str_endswith mt_endswith fun _ _ _ => .bl _
theorem mf_find : MtF X "str" "find" (kS2 fun a b => .int (Txt.find a b)) := mf2 PySem.F.slot_str_find PySem.F.type_str_find mt_find fun _ _ _ => .int _
theorem mf_count : MtF X "str" "count" (kS2 fun a b => .int (Txt.count a b)) := mf2 PySem.F.slot_str_count PySem.F.type_str_count mt_count fun _ _ _ => .int _
end
end
end Dn
end

section
set_option Elab.async false
set_option linter.all false
set_option maxRecDepth 100000
set_option maxHeartbeats 4000000
/-! Dn: the rules by syntax: names, constants, calls of one's own, targets, assignments, comprehensions. -/
namespace Dn
open PySem PySem.Spec L2
section
variable {K : Fg} {mg : MG} {W : WX} {pr : Nat → Bool} {σ σ1 σ' : L2.St} {ρ ρ1 ρ' : Env} {F F1 F' H H1 H' H0 : Hp} {v u : V} {f fa fb : DE} {x y : D} {g g1 g2 : DS} {c : Ctl} {D0 : Ends}
/-! ### names, constants, displays, signs -/
section
variable {X : Cx} {nm : Str} {pos : Pos} {es : List Expr} {fs : List DE}
theorem pe_nm (i : Nat) (hN : X.N[i]? = some nm := by rfl) (hv : Vis X.env.scope nm := by first | exact Or.inl rfl | exact Or.inr (Or.inl rfl) | exact Or.inr (Or.inr rfl)) (hd : (nm == ("__debug__" : Str)) = false := by decide)
    (hcd : (nm == ("__classdict__" : Str)) = false := by decide) : PE X (.Name nm pos) (LE X.K X.mg W (xVar i)) := PE.imp (pv i hN hv hd hcd) fun _ _ _ h => LE.var h
theorem pe_intD {i : Int} {k : Nat} : PE X (.Constant (.int i) k pos) (LE X.K X.mg W (xC (.int i))) := PE.imp pe_int fun _ _ _ h => LE.con (fun _ => .int i) h
theorem pe_strD {z : Str} {k : Nat} : PE X (.Constant (.str z) k pos) (LE X.K X.mg W (xC (.str z))) := PE.imp pe_str fun _ _ _ h => LE.con (fun _ => .str z) h
theorem pe_blD {b : Bool} {k : Nat} : PE X (.Constant (.bool b) k pos) (LE X.K X.mg W (xC (.bl b))) := PE.imp pe_bl fun _ _ _ h => LE.con (fun _ => .bl b) h
theorem pe_nonD {k : Nat} : PE X (.Constant .none k pos) (LE X.K X.mg W (xC .non)) := PE.imp pe_non fun _ _ _ h => LE.con (fun _ => .non) h
theorem pe_gloD {u : Value} (hg : Gl X nm) (hm : X.mg nm = some u) (r : RelV v u) (hx : ∀ F, Rep X.K F x v) (hd : (nm == ("__debug__" : Str)) = false := by decide) : PE X (.Name nm pos) (LE X.K X.mg W (xC x)) := PE.imp (pe_glob hg hm r hd) fun _ _ _ h => LE.con hx h
theorem pe_tupD {x1} (h : PA X es (LA X.K X.mg W fs)) (hz : fs.length ≤ sizeLine := by decide) : PE X (.Tuple es x1 pos) (LE X.K X.mg W (xTup fs)) := PE.imp (pe_tup h) fun _ _ _ h => LE.tup hz h
theorem pe_lstD (h : PA X es (LA X.K X.mg W fs)) (hz : fs.length ≤ sizeLine := by decide) : PE X (.List es pos) (LE X.K X.mg W (xLst fs)) := PE.imp (pe_lst h) fun _ _ _ h => LE.lst hz h
def kNeg : D → Option R
  | .int i => some (.d (.int (-i)))
  | _ => none
theorem pe_negD {e : Expr} (h : PE X e (LE X.K X.mg W f)) : PE X (.UnaryOp .USub e pos) (LE X.K X.mg W (o1 f kNeg)) := PE.imp (pe_un un_neg h) fun _ _ _ h => LE.one h fun x res v ρ F H rs hx e q => by
  unfold kNeg at e
  split at e
  · cases e
    cases hx.int
    exact ⟨_, rfl, q.dat rs (.int _)⟩
  · cases e
end
/-! ### values of tests -/
def xT (t : Dx Bool) : DE := bE t fun b => rE (.d (.bl b))
/-! ### calls -/
theorem takes_no {X : Cx} {s : Shared} {H : Hp} {scope : Scope} {ce : PySem.Env} {fp : List Addr} : Takes (X.blk s H scope ce fp) noX := fun u s' ⟨_, _, _, _, _, _, _, _, _, _, _, _, _, _, _, _, w⟩ => w.elim
section
variable {X : Cx} {k : Nat} {fA : Addr} {fd : FuncData} {ps : List Str} {n : Nat} {fn : FD} {nm : Str} {e : Expr} {es : List Expr} {fs : List DE} {p pos : Pos} {dvs : List V} {dus : List Value} {dd : List D}
theorem pe_fnD (Fn : FnG X.prog X.w X.K X.mg X.base k fA fd ps (spD X.K X.mg n fn)) (hr : Room k X.A) (hG : X.A.guards = some []) (tk : Takes X W) (hg : Gl X nm) (hm : X.mg nm = some (.ref fA)) (hk : PySem.W.keepIn X.K (.ref fA) = true)
    (hb : Binds X.K fd ps dus) (hd : Vals dvs dus) (rd : ∀ F, Reps X.K F dd dvs) (hn : fs.length + dd.length = n) (ha : PA X (e :: es) (LA X.K X.mg W fs)) (hdb : (nm == ("__debug__" : Str)) = false := by decide)
    (he : starEach (e :: es) X.env = (false, eval e X.env) :: starEach es X.env := by rfl) (hpl : (backTo pos (starEach es X.env)).any (·.1) = false := by rfl) : PE X (.Call (.Name nm p) (e :: es) [] pos) (LE X.K X.mg W (dCall fn fs dd)) :=
  PE.imp (pe_callG Fn hr hG hg hm hk hb hd (fun σ => passAt tk σ) ha hdb he hpl) fun _ _ _ h => LE.call rd hn h
end
/-! ### targets -/
def GLen (t : GT) : Prop := ∀ {x : D} {ρ ρ' : Env}, t x ρ = some ρ' → ρ'.length = ρ.length
theorem gl_nm {i : Nat} : GLen (gNm i) := fun {x ρ ρ'} e => by
  unfold gNm at e
  split at e
  · cases e
    exact List.length_set
  · cases e
def GLens : List GT → Prop
  | [] => True
  | t :: ts => GLen t ∧ GLens ts
theorem gls_len : ∀ {ts : List GT} {xs : List D} {ρ ρ' : Env}, GLens ts → gTs ts xs ρ = some ρ' → ρ'.length = ρ.length
  | [], [], ρ, ρ', _, e => by
    cases e
    rfl
  | [], _ :: _, _, _, _, e => by cases e
  | _ :: _, [], _, _, _, e => by cases e
  | t :: ts, x :: xs, ρ, ρ', h, e => by
    have e : (t x ρ).bind (gTs ts xs) = some ρ' := e
    cases z : t x ρ with
    | none => rw [z] at e; cases e
    | some ρ1 =>
      rw [z] at e
      exact (gls_len h.2 e).trans (h.1 z)
theorem gl_tp {ts : List GT} (h : GLens ts) : GLen (gTp ts) := fun {x ρ ρ'} e => by
  unfold gTp at e
  cases x with
  | tup xs =>
    dsimp only at e
    split at e
    · exact gls_len h e
    · cases e
  | _ => cases e
theorem PGs.imp {X : Cx} {e : List Expr} {t t' : TGs} (h : PGs X e t) (i : ∀ v σ H Q, t' v σ H Q → t v σ H Q) : PGs X e t' := ⟨fun pins s σ H v u Q I r q => h.run pins s σ H v u Q I r (i v σ H Q q)⟩
section
variable {X : Cx} {nm : Str} {pos : Pos} {e : Expr} {es : List Expr} {t : GT} {ts : List GT}
theorem pg_nmD (i : Nat) (hN : X.N.Nodup) (hp : pr i = false := by rfl) (hi : X.N[i]? = some nm := by rfl) (hx : Loc X.env.scope nm := by first | exact .inl rfl | exact .inr rfl)
    (hf : X.fn nm = true ∨ X.env.scope.names.lookup nm = some .local := by first | exact .inl rfl | exact .inr rfl | assumption) : PG X (.Name nm pos) (LG X.K pr (gNm i)) := PG.imp (pg_name hN hi hx hf) fun _ _ _ _ h => LG.name hp h
theorem pgs_nilD : PGs X [] (LGs X.K pr []) := PGs.imp pgs_nil fun _ _ _ _ h => LGs.nil h
theorem pgs_consD (h1 : PG X e (LG X.K pr t)) (h2 : PGs X es (LGs X.K pr ts)) (hs : (assignEach (e :: es) X.env).map (·.2) = assign e X.env :: (assignEach es X.env).map (·.2) := by rfl) : PGs X (e :: es) (LGs X.K pr (t :: ts)) := PGs.imp (pgs_cons h1 h2 hs) fun _ _ _ _ h => LGs.cons h
theorem pg_tpD {k : Nat} (hc : X.calm = true) (h : PGs X es (LGs X.K pr ts)) (hn : (assignEach es X.env).length = ts.length := by rfl) (hst : (assignEach es X.env).findIdx? (·.1) = none := by rfl) : PG X (.Tuple es k pos) (LG X.K pr (gTp ts)) := PG.imp (pg_tup hc h hn hst) fun _ _ _ _ h => LG.tup rfl h
end
/-! ### several names at once: x, y = a, b -/
/-- what an expression gave, while others are evaluated -/
def RL (K : Fg) (σ : L2.St) (ρ : Env) (F H H0 : Hp) : R → V → Prop
  | .d x, v => Rep K F x v
  | .o x, v => RR K σ ρ F H H0 (.o x) v
  | .s i, v => σ[i]? = some (some v)
theorem RL.of {a : R} (h : RR K σ ρ F H H0 a v) : RL K σ ρ F H H0 a v := by
  cases a with
  | d x => exact h
  | o x => exact h
  | s i => exact h.1
theorem RL.weak {a : R} (l : ∀ c, H0 c ≠ none → H1 c ≠ none) (h : RL K σ ρ F H H1 a v) : RL K σ ρ F H H0 a v := by
  cases a with
  | d x => exact h
  | o x => exact RR.weak (a := .o x) l h
  | s i => exact h
theorem RL.carry {a : R} (h : RL K σ ρ F H H0 a v) (g : Gr σ ρ F H σ ρ1 F1 H1) : RL K σ ρ1 F1 H1 H0 a v := by
  cases a with
  | d x => exact Rep.sub g.mono h
  | s i => exact h
  | o x =>
    obtain ⟨p, rfl, h0, no, hf, o, ho, w⟩ := h
    have hn : H p ≠ none := by rw [ho]; simp
    exact ⟨p, rfl, h0, fun q => (g.sub p q).elim no hn, g.nofz p hn no hf, o, (g.keep p hn no).trans ho, w.sub g.mono⟩
def isO : R → Bool
  | .o _ => true
  | _ => false
inductive RLs (K : Fg) (σ : L2.St) (ρ : Env) (F H H0 : Hp) : List R → List V → Prop
  | nil : RLs K σ ρ F H H0 [] []
  | cons {a : R} {v : V} {as : List R} {vs : List V} : RL K σ ρ F H H0 a v → RLs K σ ρ F H H0 as vs → (isO a = true → ∀ (j : Nat) (b : R), as[j]? = some b → isO b = true → vs[j]? ≠ some v) → RLs K σ ρ F H H0 (a :: as) (v :: vs)
theorem RLs.weak (l : ∀ c, H0 c ≠ none → H1 c ≠ none) : ∀ {as : List R} {vs : List V}, RLs K σ ρ F H H1 as vs → RLs K σ ρ F H H0 as vs
  | _, _, .nil => .nil
  | _, _, .cons a b n => .cons (a.weak l) (RLs.weak l b) n
theorem RLs.carry (g : Gr σ ρ F H σ ρ1 F1 H1) : ∀ {as : List R} {vs : List V}, RLs K σ ρ F H H0 as vs → RLs K σ ρ1 F1 H1 H0 as vs
  | _, _, .nil => .nil
  | _, _, .cons a b n => .cons (a.carry g) (RLs.carry g b) n
theorem RLs.get : ∀ {as : List R} {vs : List V} {j : Nat} {a : R}, RLs K σ ρ F H H0 as vs → as[j]? = some a → ∃ v, vs[j]? = some v ∧ RL K σ ρ F H H0 a v
  | _, _, _, _, .nil, h => by simp at h
  | _, _, 0, _, .cons r _ _, h => by
    simp at h
    subst h
    exact ⟨_, rfl, r⟩
  | _, _, j + 1, _, .cons _ t _, h => RLs.get (j := j) t (by simpa using h)
def eL : List DE → Dx (List R)
  | [] => rE []
  | f :: fs => bE f fun a => bE (eL fs) fun as => rE (a :: as)
def LAo (K : Fg) (mg : MG) (W : WX) (fs : List DE) : TA := fun σ H Q => ∃ ρ F r ρ', RS K σ ρ F H ∧ eL fs ρ = some (r, ρ') ∧
  match (r : Except Exn (List R)) with
  | .ok as => ∀ vs F' H', RS K σ ρ' F' H' → Gr σ ρ F H σ ρ' F' H' → RLs K σ ρ' F' H' H as vs → Q vs H'
  | .error x => EX K mg W σ ρ F H x ρ'
theorem LAo.nil : ∀ {σ : L2.St} {H : Hp} {Q : List V → Hp → Prop}, LAo K mg W [] σ H Q → tNil σ H Q := by
  rintro σ H Q ⟨ρ, F, r, ρ', rs, e, q⟩
  cases e
  exact q [] F H rs Gr.refl .nil
theorem LAo.cons {fs : List DE} : ∀ {σ : L2.St} {H : Hp} {Q : List V → Hp → Prop}, LAo K mg W (f :: fs) σ H Q → tCons (LE K mg W f) (LAo K mg W fs) σ H Q := by
  rintro σ H Q ⟨ρ, F, r, ρ', rs, e, q⟩
  refine LE.bind (k := fun a => bE (eL fs) fun as => rE (a :: as)) rs e (fun x hx => by subst hx; exact q) fun a v ρ1 F1 H1 rs1 g1 rr e1 => ?_
  unfold bE at e1
  cases z : eL fs ρ1 with
  | none => rw [z] at e1; cases e1
  | some w =>
    obtain ⟨ra, ρ2⟩ := w
    rw [z] at e1
    cases ra with
    | error x =>
      cases e1
      exact ⟨ρ1, F1, .error x, _, rs1, z, EX.trans g1 q⟩
    | ok as =>
      cases e1
      refine ⟨ρ1, F1, .ok as, _, rs1, z, fun vs F2 H2 rs2 g2 rl => ?_⟩
      refine q (v :: vs) F2 H2 rs2 (g1.trans g2) (.cons ((RL.of rr).carry g2) (rl.weak g1.live) ?_)
      intro ha j b hb ho hv
      cases a with
      | o x =>
        obtain ⟨p, rfl, h0, no, hf, o, hp, w⟩ := rr
        obtain ⟨v', hv', r'⟩ := rl.get hb
        rw [hv] at hv'
        cases hv'
        cases b with
        | o y =>
          obtain ⟨p', e', h0', _⟩ := r'
          cases e'
          rw [h0'] at hp
          cases hp
        | _ => cases ho
      | _ => cases ha
/-- what was a slot's becomes data -/
def frzL : Env → List R → Option (List R × Env)
  | ρ, [] => some ([], ρ)
  | ρ, .s j :: as => match frzS ρ j with
    | some (x, ρ1) => (frzL ρ1 as).map fun p => (.d x :: p.1, p.2)
    | none => none
  | ρ, .d x :: as => (frzL ρ as).map fun p => (.d x :: p.1, p.2)
  | ρ, .o x :: as => (frzL ρ as).map fun p => (.o x :: p.1, p.2)
def noSl : List R → Bool
  | [] => true
  | .s _ :: _ => false
  | _ :: as => noSl as
theorem frzL_isO : ∀ {as bs : List R} {ρ ρ' : Env}, frzL ρ as = some (bs, ρ') → noSl bs = true ∧ ∀ (j : Nat) (b : R), bs[j]? = some b → isO b = true → as[j]? = some b
  | [], bs, ρ, ρ', e => by
    cases e
    exact ⟨rfl, fun j b h => by simp at h⟩
  | .s i :: as, bs, ρ, ρ', e => by
    unfold frzL at e
    cases z : frzS ρ i with
    | none => rw [z] at e; cases e
    | some w =>
      obtain ⟨x, ρ1⟩ := w
      rw [z] at e
      dsimp only at e
      cases y : frzL ρ1 as with
      | none => rw [y] at e; cases e
      | some w =>
        rw [y] at e
        cases e
        obtain ⟨a, b⟩ := frzL_isO y
        refine ⟨a, fun j c h ho => ?_⟩
        cases j with
        | zero =>
          simp at h
          subst h
          cases ho
        | succ j => simpa using b j c (by simpa using h) ho
  | .d x :: as, bs, ρ, ρ', e => by
    unfold frzL at e
    cases y : frzL ρ as with
    | none => rw [y] at e; cases e
    | some w =>
      rw [y] at e
      cases e
      obtain ⟨a, b⟩ := frzL_isO y
      refine ⟨a, fun j c h ho => ?_⟩
      cases j with
      | zero =>
        simp at h
        subst h
        rfl
      | succ j => simpa using b j c (by simpa using h) ho
  | .o x :: as, bs, ρ, ρ', e => by
    unfold frzL at e
    cases y : frzL ρ as with
    | none => rw [y] at e; cases e
    | some w =>
      rw [y] at e
      cases e
      obtain ⟨a, b⟩ := frzL_isO y
      refine ⟨a, fun j c h ho => ?_⟩
      cases j with
      | zero =>
        simp at h
        subst h
        rfl
      | succ j => simpa using b j c (by simpa using h) ho
theorem frzL_ok : ∀ {as bs : List R} {vs : List V} {ρ ρ' : Env} {F : Hp}, RS K σ ρ F H → RLs K σ ρ F H H0 as vs → frzL ρ as = some (bs, ρ') →
    ∃ F', RS K σ ρ' F' H ∧ Gr σ ρ F H σ ρ' F' H ∧ RLs K σ ρ' F' H H0 bs vs
  | [], bs, vs, ρ, ρ', F, rs, rl, e => by
    cases e
    exact ⟨F, rs, Gr.refl, rl⟩
  | .s i :: as, bs, _, ρ, ρ', F, rs, .cons a b n, e => by
    unfold frzL at e
    cases z : frzS ρ i with
    | none => rw [z] at e; cases e
    | some w =>
      obtain ⟨x, ρ1⟩ := w
      rw [z] at e
      dsimp only at e
      obtain ⟨F1, rs1, g1, r1⟩ := frzS_ok rs a z
      cases y : frzL ρ1 as with
      | none => rw [y] at e; cases e
      | some w =>
        rw [y] at e
        cases e
        obtain ⟨F2, rs2, g2, r2⟩ := frzL_ok rs1 (b.carry g1) y
        exact ⟨F2, rs2, g1.trans g2, .cons (r1.sub g2.mono) r2 fun h => nomatch h⟩
  | .d x :: as, bs, _, ρ, ρ', F, rs, .cons a b n, e => by
    unfold frzL at e
    cases y : frzL ρ as with
    | none => rw [y] at e; cases e
    | some w =>
      rw [y] at e
      cases e
      obtain ⟨F2, rs2, g2, r2⟩ := frzL_ok rs b y
      exact ⟨F2, rs2, g2, .cons (RL.carry (a := .d x) a g2) r2 fun h => nomatch h⟩
  | .o x :: as, bs, _, ρ, ρ', F, rs, .cons a b n, e => by
    unfold frzL at e
    cases y : frzL ρ as with
    | none => rw [y] at e; cases e
    | some w =>
      rw [y] at e
      cases e
      obtain ⟨F2, rs2, g2, r2⟩ := frzL_ok rs b y
      exact ⟨F2, rs2, g2, .cons (RL.carry (a := .o x) a g2) r2 fun h j c hc ho => n rfl j c ((frzL_isO y).2 j c hc ho) ho⟩
def setL : List Nat → List R → Env → Option Env
  | [], [], ρ => some ρ
  | i :: is, .d x :: as, ρ => if i < ρ.length then setL is as (ρ.set i (some (.d x))) else none
  | i :: is, .o x :: as, ρ => if i < ρ.length then setL is as (ρ.set i (some (.o x))) else none
  | _, _, _ => none
def setV : L2.St → List Nat → List V → L2.St
  | σ, i :: is, v :: vs => setV (σ.set i (some v)) is vs
  | σ, _, _ => σ
theorem setL_ok : ∀ {is : List Nat} {as : List R} {vs : List V} {σ : L2.St} {ρ ρ' : Env}, RS K σ ρ F H → RLs K σ ρ F H H0 as vs → noSl as = true → (∀ i ∈ is, pr i = false) → setL is as ρ = some ρ' →
    RS K (setV σ is vs) ρ' F H ∧ (∀ p, Ow ρ' (setV σ is vs) p → Ow ρ σ p ∨ H0 p = none) ∧ ∀ j : Nat, pr j = true → (setV σ is vs)[j]? = σ[j]?
  | [], [], vs, σ, ρ, ρ', rs, rl, _, _, e => by
    cases rl
    cases e
    exact ⟨rs, fun p h => .inl h, fun _ _ => rfl⟩
  | [], _ :: _, _, _, _, _, _, _, _, _, e => by cases e
  | _ :: _, [], _, _, _, _, _, _, _, _, e => by cases e
  | _ :: _, .s _ :: _, _, _, _, _, _, _, h, _, _ => by cases h
  | i :: is, .d x :: as, _, σ, ρ, ρ', rs, .cons (v := v) (vs := vs) a b n, hn, hp, e => by
    unfold setL at e
    split at e
    · rename_i hi
      obtain ⟨a1, a2⟩ := setD rs hi (show Rep K F x v from a)
      have hb : RLs K (σ.set i (some v)) (ρ.set i (some (.d x))) F H H0 as vs := by
        clear e a
        replace hn : noSl as = true := hn
        clear n
        induction b with
        | nil => exact .nil
        | @cons a v' as vs r t m ih =>
          refine .cons ?_ (ih ?_) m
          · cases a with
            | d y => exact r
            | s j => cases hn
            | o y =>
              obtain ⟨p, e1, h0, no, w⟩ := r
              refine ⟨p, e1, h0, fun q => ?_, w⟩
              obtain ⟨j, z, q1, q2⟩ := q
              by_cases hj : j = i
              · subst hj
                rw [gt_same hi] at q1
                cases q1
              · rw [gt_ne hj] at q1
                rw [List.getElem?_set_ne (Ne.symm hj)] at q2
                exact no ⟨j, z, q1, q2⟩
          · cases a with
            | s j => cases hn
            | d y => exact hn
            | o y => exact hn
      obtain ⟨b1, b2, b3⟩ := setL_ok a1 hb hn (fun j hj => hp j (List.mem_cons_of_mem _ hj)) e
      refine ⟨b1, fun p h => ?_, fun j hj => (b3 j hj).trans (List.getElem?_set_ne (fun z => by subst z; rw [hp _ List.mem_cons_self] at hj; cases hj))⟩
      rcases b2 p h with z | z
      · refine .inl ?_
        obtain ⟨j, z, q1, q2⟩ := z
        by_cases hj : j = i
        · subst hj
          rw [gt_same hi] at q1
          cases q1
        · rw [gt_ne hj] at q1
          rw [List.getElem?_set_ne (Ne.symm hj)] at q2
          exact ⟨j, z, q1, q2⟩
      · exact .inr z
    · cases e
  | i :: is, .o x :: as, _, σ, ρ, ρ', rs, .cons (v := v) (vs := vs) a b n, hn, hp, e => by
    unfold setL at e
    split at e
    · rename_i hi
      have a' : RR K σ ρ F H H0 (.o x) v := a
      obtain ⟨a1, a2⟩ := setO rs hi (fun p z => by obtain ⟨p', e1, e2, _⟩ := a'; rw [e1] at z; cases z; exact e2) a'
      obtain ⟨pa, ea, ha0, _⟩ := a'
      have hb : RLs K (σ.set i (some v)) (ρ.set i (some (.o x))) F H H0 as vs := by
        clear e a
        replace hn : noSl as = true := hn
        replace n := n rfl
        induction b with
        | nil => exact .nil
        | @cons a v' as vs r t m ih =>
          refine .cons ?_ (ih ?_ fun j c hc ho hv => n (j + 1) c (by simpa using hc) ho (by simpa using hv)) m
          · cases a with
            | d y => exact r
            | s j => cases hn
            | o y =>
              obtain ⟨p, e1, h0, no, w⟩ := r
              refine ⟨p, e1, h0, fun q => ?_, w⟩
              obtain ⟨j, z, q1, q2⟩ := q
              by_cases hj : j = i
              · subst hj
                have hi2 : j < σ.length := by rw [← rs.len]; exact hi
                rw [List.getElem?_set_self hi2] at q2
                have n0 := n 0 (.o y) rfl rfl
                apply n0
                simp
                have q3 := Option.some.inj (Option.some.inj q2)
                rw [e1, ← q3]
              · rw [gt_ne hj] at q1
                rw [List.getElem?_set_ne (Ne.symm hj)] at q2
                exact no ⟨j, z, q1, q2⟩
          · cases a with
            | s j => cases hn
            | d y => exact hn
            | o y => exact hn
      obtain ⟨b1, b2, b3⟩ := setL_ok a1 hb hn (fun j hj => hp j (List.mem_cons_of_mem _ hj)) e
      refine ⟨b1, fun p h => ?_, fun j hj => (b3 j hj).trans (List.getElem?_set_ne (fun z => by subst z; rw [hp _ List.mem_cons_self] at hj; cases hj))⟩
      rcases b2 p h with z | z
      · exact a2 p z
      · exact .inr z
    · cases e
def sPar (is : List Nat) (fs : List DE) : DS := bS (eL fs) fun as => fun ρ => match frzL ρ as with
  | some (bs, ρ1) => (setL is bs ρ1).map fun ρ2 => (.nx, ρ2)
  | none => none
theorem LS.par {is : List Nat} {fs : List DE} (hp : ∀ i ∈ is, pr i = false) {D0 : Ends} {σ : L2.St} {H : Hp} (h : LS K mg W pr (sPar is fs) D0 σ H) : LAo K mg W fs σ H fun vs H1 => D0.nx (setV σ is vs) H1 := by
  obtain ⟨ρ, F, c, ρ', rs, e, q⟩ := h
  unfold sPar bS at e
  cases z : eL fs ρ with
  | none => rw [z] at e; cases e
  | some z1 =>
    obtain ⟨ra, ρ1⟩ := z1
    rw [z] at e
    cases ra with
    | error x =>
      cases e
      exact ⟨ρ, F, .error x, _, rs, z, fun cls d F' H' rs' g' xr => q σ F' H' rs' g' (fun _ _ => rfl) cls d xr⟩
    | ok as =>
      refine ⟨ρ, F, .ok as, ρ1, rs, z, fun vs F1 H1 rs1 g1 rl => ?_⟩
      dsimp only at e
      cases y : frzL ρ1 as with
      | none => rw [y] at e; cases e
      | some w =>
        obtain ⟨bs, ρ2⟩ := w
        rw [y] at e
        dsimp only at e
        obtain ⟨F2, rs2, g2, rl2⟩ := frzL_ok rs1 rl y
        cases u : setL is bs ρ2 with
        | none => rw [u] at e; cases e
        | some ρ3 =>
          rw [u] at e
          cases e
          obtain ⟨a1, a2, a3⟩ := setL_ok rs2 rl2 (frzL_isO y).1 hp u
          have g12 := g1.trans g2
          exact q _ F2 H1 a1 ⟨g12.keep, g12.live, g12.mono, g12.nofz, fun p h => (a2 p h).elim (g12.sub p) .inr⟩ a3
end
end Dn
end

section
set_option Elab.async false
set_option linter.all false
set_option maxRecDepth 100000
set_option maxHeartbeats 4000000
/-! Dn: assignments, comprehensions, a def in its context. -/
namespace Dn
open PySem PySem.Spec L2
section
variable {K : Fg} {mg : MG} {W : WX} {pr : Nat → Bool} {σ σ1 σ' : L2.St} {ρ ρ1 ρ' : Env} {F F1 F' H H1 H' H0 : Hp} {v u : V} {f fa fb fc : DE} {x y : D} {g g1 g2 : DS} {c : Ctl} {D0 : Ends}
theorem all2 {i j : Nat} (h1 : pr i = false) (h2 : pr j = false) : ∀ k ∈ [i, j], pr k = false := by
  intro k hk
  simp at hk
  rcases hk with rfl | rfl <;> assumption
theorem all3 {i j l : Nat} (h1 : pr i = false) (h2 : pr j = false) (h3 : pr l = false) : ∀ k ∈ [i, j, l], pr k = false := by
  intro k hk
  simp at hk
  rcases hk with rfl | rfl | rfl <;> assumption
theorem LAo.two {Q : List V → Hp → Prop} (h : LAo K mg W [fa, fb] σ H fun vs H => Q vs H) : tCons (LE K mg W fa) (tCons (LE K mg W fb) tNil) σ H Q := by
  obtain ⟨ρ, F, r, ρ', rs, e, q⟩ := LAo.cons h
  refine ⟨ρ, F, r, ρ', rs, e, ?_⟩
  cases r with
  | error x => exact q
  | ok a =>
    refine fun v F' H' rs' g' rr => ?_
    obtain ⟨ρ2, F2, r2, ρ3, rs2, e2, q2⟩ := LAo.cons (q v F' H' rs' g' rr)
    refine ⟨ρ2, F2, r2, ρ3, rs2, e2, ?_⟩
    cases r2 with
    | error x => exact q2
    | ok b => exact fun v' F' H' rs' g' rr => LAo.nil (q2 v' F' H' rs' g' rr)
theorem LAo.three {Q : List V → Hp → Prop} (h : LAo K mg W [fa, fb, fc] σ H fun vs H => Q vs H) : tCons (LE K mg W fa) (tCons (LE K mg W fb) (tCons (LE K mg W fc) tNil)) σ H Q := by
  obtain ⟨ρ, F, r, ρ', rs, e, q⟩ := LAo.cons h
  refine ⟨ρ, F, r, ρ', rs, e, ?_⟩
  cases r with
  | error x => exact q
  | ok a => exact fun v F' H' rs' g' rr => LAo.two (q v F' H' rs' g' rr)
theorem eL_len : ∀ {fs : List DE} {as : List R} {ρ ρ' : Env}, eL fs ρ = some (.ok as, ρ') → as.length = fs.length
  | [], as, ρ, ρ', e => by cases e; rfl
  | f :: fs, as, ρ, ρ', e => by
    unfold eL bE at e
    cases ef : f ρ with
    | none => rw [ef] at e; cases e
    | some z =>
      obtain ⟨r, ρ1⟩ := z
      rw [ef] at e
      cases r with
      | error x => cases e
      | ok a =>
        have e : bE (eL fs) (fun as => rE (a :: as)) ρ1 = some (.ok as, ρ') := e
        unfold bE at e
        cases eb : eL fs ρ1 with
        | none => rw [eb] at e; cases e
        | some z =>
          obtain ⟨r2, ρ2⟩ := z
          rw [eb] at e
          cases r2 with
          | error x => cases e
          | ok bs =>
            cases e
            exact congrArg (· + 1) (eL_len eb)
theorem RLs.length : ∀ {as : List R} {vs : List V}, RLs K σ ρ F H H0 as vs → as.length = vs.length
  | _, _, .nil => rfl
  | _, _, .cons _ t _ => congrArg (· + 1) (RLs.length t)
theorem LAo.len {fs : List DE} {Q : List V → Hp → Prop} (h : LAo K mg W fs σ H Q) : LAo K mg W fs σ H fun vs H => vs.length = fs.length ∧ Q vs H := by
  obtain ⟨ρ, F, r, ρ', rs, e, q⟩ := h
  refine ⟨ρ, F, r, ρ', rs, e, ?_⟩
  cases r with
  | error x => exact q
  | ok as => exact fun vs F' H' rs' g' rl => ⟨rl.length.symm.trans (eL_len e), q vs F' H' rs' g' rl⟩
theorem LAo.imp {fs : List DE} {Q Q' : List V → Hp → Prop} (i : ∀ vs H, Q vs H → Q' vs H) (h : LAo K mg W fs σ H Q) : LAo K mg W fs σ H Q' := by
  obtain ⟨ρ, F, r, ρ', rs, e, q⟩ := h
  refine ⟨ρ, F, r, ρ', rs, e, ?_⟩
  cases r with
  | error x => exact q
  | ok as => exact fun vs F' H' rs' g' rl => i _ _ (q vs F' H' rs' g' rl)
section
variable {X : Cx} {i j l : Nat} {nx ny nz : Str} {a b d : Expr} {px py pz pt pos : Pos} {kt k2 : Nat} {pt2 : Pos}
theorem ps_par2D (hp : ∀ k ∈ [i, j], pr k = false) (hc : X.calm = true) (hN : X.N.Nodup) (hi : X.N[i]? = some nx) (hj : X.N[j]? = some ny) (hij : i ≠ j)
    (hx : X.env.scope.names.lookup nx = some .local) (hy : X.env.scope.names.lookup ny = some .local) (ha : PE X a (LE X.K X.mg W fa)) (hb : PE X b (LE X.K X.mg W fb))
    (hw : swappedStores [.Tuple [.Name nx px, .Name ny py] kt pt] (.Tuple [a, b] k2 pt2) X.env = pure (some [nx, ny]))
    (s1 : starEach [a, b] X.env = (false, eval a X.env) :: starEach [b] X.env := by rfl) (s2 : starEach [b] X.env = (false, eval b X.env) :: starEach [] X.env := by rfl)
    (hs : swapsWithSole [.Tuple [.Name nx px, .Name ny py] kt pt] (.Tuple [a, b] k2 pt2) pos.line X.env = pure false := by rfl) :
    PS X (.Assign [.Tuple [.Name nx px, .Name ny py] kt pt] (.Tuple [a, b] k2 pt2) pos) (LS X.K X.mg W pr (sPar [i, j] [fa, fb])) :=
  PS.imp (ps_par hc hN hi hj hij hx hy (pa_cons ha (pa_cons hb pa_nil s2) s1) hw hs) fun D σ H h =>
    LAo.two (LAo.imp (fun vs H ⟨hl, q⟩ => by
      match vs, hl, q with
      | [v, w], _, q => exact ⟨v, w, rfl, q⟩) (LAo.len (LS.par hp h)))
theorem ps_par3D (hp : ∀ k ∈ [i, j, l], pr k = false) (hc : X.calm = true) (hN : X.N.Nodup) (hi : X.N[i]? = some nx) (hj : X.N[j]? = some ny) (hl : X.N[l]? = some nz) (hij : i ≠ j) (hil : i ≠ l) (hjl : j ≠ l)
    (hx : X.env.scope.names.lookup nx = some .local) (hy : X.env.scope.names.lookup ny = some .local) (hz : X.env.scope.names.lookup nz = some .local) (ha : PE X a (LE X.K X.mg W fa)) (hb : PE X b (LE X.K X.mg W fb)) (hd : PE X d (LE X.K X.mg W fc))
    (hw : swappedStores [.Tuple [.Name nx px, .Name ny py, .Name nz pz] kt pt] (.Tuple [a, b, d] k2 pt2) X.env = pure (some [nx, ny, nz]))
    (s1 : starEach [a, b, d] X.env = (false, eval a X.env) :: starEach [b, d] X.env := by rfl) (s2 : starEach [b, d] X.env = (false, eval b X.env) :: starEach [d] X.env := by rfl) (s3 : starEach [d] X.env = (false, eval d X.env) :: starEach [] X.env := by rfl)
    (hs : swapsWithSole [.Tuple [.Name nx px, .Name ny py, .Name nz pz] kt pt] (.Tuple [a, b, d] k2 pt2) pos.line X.env = pure false := by rfl) :
    PS X (.Assign [.Tuple [.Name nx px, .Name ny py, .Name nz pz] kt pt] (.Tuple [a, b, d] k2 pt2) pos) (LS X.K X.mg W pr (sPar [i, j, l] [fa, fb, fc])) :=
  PS.imp (ps_par3 hc hN hi hj hl hij hil hjl hx hy hz (pa_cons ha (pa_cons hb (pa_cons hd pa_nil s3) s2) s1) hw hs) fun D σ H h =>
    LAo.three (LAo.imp (fun vs H ⟨hl, q⟩ => by
      match vs, hl, q with
      | [v, w, z], _, q => exact ⟨v, w, z, rfl, q⟩) (LAo.len (LS.par hp h)))
end
/-! ### target = e -/
def sAsg (f : DE) (t : GT) : DS := bS f fun a => fun ρ => match toD ρ (nrm a) with
  | some (x, ρ1) => (t x ρ1).map fun ρ2 => (.nx, ρ2)
  | none => none
theorem LS.asg {t : GT} {D0 : Ends} {σ : L2.St} {H : Hp} (h : LS K mg W pr (sAsg f t) D0 σ H) : tAsg (LE K mg W f) (LG K pr t) D0 σ H := by
  obtain ⟨ρ, F, c, ρ', rs, e, q⟩ := h
  refine LE.bindS rs e q fun a v ρ1 F1 H1 rs1 g1 rr e1 => ?_
  obtain ⟨F2, rs2, g2, ro⟩ := opnd_of rs1 g1 rr
  cases z : toD ρ1 (nrm a) with
  | none => rw [z] at e1; cases e1
  | some w =>
    obtain ⟨x, ρ2⟩ := w
    rw [z] at e1
    dsimp only at e1
    obtain ⟨F3, rs3, g3, rx⟩ := toD_ok rs2 ro z
    cases y : t x ρ2 with
    | none => rw [y] at e1; cases e1
    | some ρ3 =>
      rw [y] at e1
      cases e1
      exact ⟨ρ2, F3, x, _, rs3, rx, y, fun σ' F' H' rs' g' p' => q σ' F' H' rs' (g2.trans (g3.trans g')) p'⟩
theorem ps_asgD {X : Cx} {tg e : Expr} {t : GT} {pos : Pos} (he : PE X e (LE X.K X.mg W f)) (hg : PG X tg (LG X.K pr t)) (hs : swapsWithSole [tg] e pos.line X.env = pure false := by rfl) (hw : swappedStores [tg] e X.env = pure none := by rfl)
    (h1 : (assignEach [tg] X.env).map (·.2) = [assign tg X.env] := by rfl) : PS X (.Assign [tg] e pos) (LS X.K X.mg W pr (sAsg f t)) := PS.imp (ps_asg he hg hs hw h1) fun _ _ _ h => LS.asg h
/-! ### xs[i] = e, xs a list of one's own -/
def stIx (o : R) (x : D) (i : D) : DS := fun ρ => match o, i with
  | .s j, .int k => (match gt ρ j with
    | some (.o (.lst ds)) => (match ixN ds.length k with
      | some m => some (.nx, ρ.set j (some (.o (.lst (ds.set m x)))))
      | none => none)
    | _ => none)
  | _, _ => none
def sStI (fv fo fi : DE) : DS := bS fv fun a => bS fo fun o => bS fi fun i => fun ρ => match toD ρ (nrm a) with
  | some (x, ρ1) => (match pk ρ1 (nrm i) with
    | some k => stIx o x k ρ1
    | none => none)
  | none => none
theorem LS.stI {fv fo fi : DE} {D0 : Ends} {σ : L2.St} {H : Hp} (h : LS K mg W pr (sStI fv fo fi) D0 σ H) : tAsg (LE K mg W fv) (gSub (LE K mg W fo) (LE K mg W fi) rSetL) D0 σ H := by
  obtain ⟨ρ, F, c, ρ', rs, e, q⟩ := h
  refine LE.bindS rs e q fun a v ρ1 F1 H1 rs1 g1 rr e1 => ?_
  obtain ⟨F1', rs1', g1', ro⟩ := opnd_of rs1 g1 rr
  refine LE.bindS rs1' e1 (q.shift g1' fun _ _ => rfl) fun o w ρ2 F2 H2 rs2 g2 rr2 e2 => ?_
  refine LE.bindS rs2 e2 ((q.shift g1' fun _ _ => rfl).shift g2 fun _ _ => rfl) fun i u ρ3 F3 H3 rs3 g3 rr3 e3 => ?_
  obtain ⟨F3', rs3', g3', ro3⟩ := opnd_of rs3 g3 rr3
  have g123 := g1'.trans (g2.trans g3')
  have ro' := ro.sub (g2.trans g3').mono
  cases z : toD ρ3 (nrm a) with
  | none => rw [z] at e3; cases e3
  | some y =>
    obtain ⟨x, ρ4⟩ := y
    rw [z] at e3
    dsimp only at e3
    obtain ⟨F4, rs4, g4, rx⟩ := toD_ok rs3' ro' z
    cases zi : pk ρ4 (nrm i) with
    | none => rw [zi] at e3; cases e3
    | some k =>
      rw [zi] at e3
      dsimp only at e3
      have pki := pk_ok rs4 (ro3.sub g4.mono) zi
      unfold stIx at e3
      cases o with
      | s j =>
        cases k with
        | int k =>
          dsimp only at e3
          have hw : σ[j]? = some (some w) := rr2.1
          cases pki.int
          cases zg : gt ρ4 j with
          | none => rw [zg] at e3; cases e3
          | some s =>
            rw [zg] at e3
            cases s with
            | d _ => cases e3
            | o y =>
              cases y with
              | lst ds =>
                dsimp only at e3
                obtain ⟨p, q1, q2, ob, q3, q4⟩ := rs4.own j _ zg
                rw [hw] at q1
                cases q1
                cases ob with
                | lst us =>
                  cases zn : ixN ds.length k with
                  | none => rw [zn] at e3; cases e3
                  | some m =>
                    rw [zn] at e3
                    cases e3
                    have q4 : Reps K F4 ds us := q4
                    refine ⟨p, us, k, m, rfl, rfl, q3, by rw [← q4.length]; exact zn, ?_⟩
                    obtain ⟨a1, a2⟩ := own_set (y := .lst (ds.set m x)) (o := .lst (us.set m v)) rs4 zg hw (Reps.set rx m q4)
                    exact q σ F4 _ a1 (g123.trans (g4.trans a2)) fun _ _ => rfl
                | _ => exact q4.elim
              | _ => cases e3
        | _ => cases e3
      | _ => cases e3
theorem ps_stID {X : Cx} {e o i : Expr} {fv fo fi : DE} {pos p' : Pos} (he : PE X e (LE X.K X.mg W fv)) (ho : PE X o (LE X.K X.mg W fo)) (hi : PE X i (LE X.K X.mg W fi))
    (ha : ∀ v, assign (.Subscript o i p') X.env v = (do let ov ← holding [v] (eval o X.env); let iv ← holding [v, ov] (eval i X.env); standAt p'; holding [v, ov, iv] (setItem ov iv v); release [v, ov, iv] []) := by intro _; rfl)
    (hs : swapsWithSole [.Subscript o i p'] e pos.line X.env = pure false := by rfl) (hw : swappedStores [.Subscript o i p'] e X.env = pure none := by rfl) (h1 : (assignEach [.Subscript o i p'] X.env).map (·.2) = [assign (.Subscript o i p') X.env] := by rfl) :
    PS X (.Assign [.Subscript o i p'] e pos) (LS X.K X.mg W pr (sStI fv fo fi)) := PS.imp (ps_asg he (pg_sub ho hi set_list ha) hs hw h1) fun _ _ _ h => LS.stI h
/-! ### comprehensions -/
theorem PTs.imp {X : Cx} {e : List Expr} {t t' : TT} (h : PTs X e t) (i : ∀ σ H Q, t' σ H Q → t σ H Q) : PTs X e t' := ⟨fun pins s σ H Q I q => h.run pins s σ H Q I (i σ H Q q)⟩
theorem pts_nilD {X : Cx} : PTs X [] (LT X.K X.mg W (rE true)) := PTs.imp pts_nil fun σ H Q h => by
  obtain ⟨ρ, F, r, ρ', rs, e, q⟩ := h
  cases e
  exact q F H rs Gr.refl
theorem pe_lcD {X : Cx} {elt tg iter : Expr} {ifs : List Expr} {scope : Scope} (own : List (Str × Nat)) {pos : Pos} {it : Dx (List D)} {t : GT} {tt : Dx Bool} {fe : DE} (hc : X.calm = true) (hN : X.N.Nodup) (hi : PI X tg iter (LI X.K X.mg W it)) (ok : BlkOk X.N X.env.scope scope own) (hl : GLen t)
    (hg : ∀ (s : Shared) (H : Hp) (C : Addr) (cl : List (Str × Addr)) (fp : List Addr), PG (X.blk s H scope (compEnvC scope cl C X.env) fp) tg (LG X.K (cpr (own.map (·.2))) t)) (ht : ∀ (s : Shared) (H : Hp) (C : Addr) (cl : List (Str × Addr)) (fp : List Addr), PTs (X.blk s H scope (compEnvC scope cl C X.env) fp) ifs (LT X.K X.mg noX tt))
    (he : ∀ (s : Shared) (H : Hp) (C : Addr) (cl : List (Str × Addr)) (fp : List Addr), PE (X.blk s H scope (compEnvC scope cl C X.env) fp) elt (LE X.K X.mg noX fe)) (hs : ∀ x, foldedSetIterable iter X.env x = pure x := by intro _; rfl) :
    PE X (.ListComp elt [⟨tg, iter, ifs, 0⟩] scope pos) (LE X.K X.mg W (xLc it (own.map (·.2)) t tt fe)) := PE.imp (pe_lc hc hN hi ok hg ht he hs) fun _ _ _ h => LE.comp hl h
theorem ps_setLcD {X : Cx} {elt tg iter : Expr} {ifs : List Expr} {scope : Scope} (own : List (Str × Nat)) {pos spos py : Pos} {i : Nat} {ny : Str} {it : Dx (List D)} {t : GT} {tt : Dx Bool} {fe : DE} (hp : pr i = false) (hc : X.calm = true) (hN : X.N.Nodup) (hy : X.N[i]? = some ny) (hyl : X.env.scope.names.lookup ny = some .local)
    (hsw : swapsWith (.ListComp elt [⟨tg, iter, ifs, 0⟩] scope pos) (some (.Name ny py)) spos.line X.env = pure true) (hi : PI X tg iter (LI X.K X.mg W it)) (ok : BlkOk X.N X.env.scope scope own) (hl : GLen t)
    (hg : ∀ (s : Shared) (H : Hp) (C : Addr) (cl : List (Str × Addr)) (fp : List Addr), PG (X.blk s H scope (compEnvC scope cl C X.env) fp) tg (LG X.K (cpr (own.map (·.2))) t)) (ht : ∀ (s : Shared) (H : Hp) (C : Addr) (cl : List (Str × Addr)) (fp : List Addr), PTs (X.blk s H scope (compEnvC scope cl C X.env) fp) ifs (LT X.K X.mg noX tt))
    (he : ∀ (s : Shared) (H : Hp) (C : Addr) (cl : List (Str × Addr)) (fp : List Addr), PE (X.blk s H scope (compEnvC scope cl C X.env) fp) elt (LE X.K X.mg noX fe)) (hs : ∀ x, foldedSetIterable iter X.env x = pure x := by intro _; rfl) :
    PS X (.Assign [.Name ny py] (.ListComp elt [⟨tg, iter, ifs, 0⟩] scope pos) spos) (LS X.K X.mg W pr (sSet i (xLc it (own.map (·.2)) t tt fe))) := PS.imp (ps_setLc hc hN hy hyl hsw hi ok hg ht he hs) fun D σ H h => LE.comp hl (LS.set hp h)
end
end Dn
end

section
set_option Elab.async false
set_option linter.all false
set_option maxRecDepth 100000
set_option maxHeartbeats 4000000
/-! Dn: enumerate(..) of a tuple. -/
namespace Dn
open PySem PySem.Spec
open AutoSeq1 (wpAny_loadPart')
theorem meets_enumerate_newT (l : Addr) (items : Array Value) (n : Nat) (dct : Option Addr) (sl : Array (Option Value)) :
    Meets (Builtin.«enumerate.__new__» ⟨[.type "enumerate", .ref l], []⟩) (fun _ R s => s.heap.get? l = some { cls := .type "tuple", dict := dct, data := .seq items n, slots := sl } ∧
      R (.ok (.ret (.ref (s.heap.push { cls := .type "tuple_iterator", data := .fields #[.ref l, .int 0 0] }).objs.size)))
        { s with heap := (s.heap.push { cls := .type "tuple_iterator", data := .fields #[.ref l, .int 0 0] }).push { cls := .type "enumerate", data := .fields #[.none, .bool false, .ref s.heap.objs.size, rawInt 0, .none, .none] } }) :=
  .of_wp fun prog w A R s h => by
    obtain ⟨hp, g, d, tk, os⟩ := s; obtain ⟨hl, h⟩ := h
    have hsub := sub_enumerate
    have hL : Heap.IsTuple (Shared.heap ⟨hp, g, d, tk, os⟩) l items := ⟨_, hl, rfl, n, rfl⟩
    wp_walk using wpAny_loadPart' hl
    refine wpAny_stack_any fun st => wpAny_pure ?_
    split
    · rename_i c _ _ _ _ _
      cases (c == Value.type "enumerate")
      · wp_walk using wpAny_loadPart' hl, wpAny_pyIter_tuple hL
        exact ⟨_, rfl, h⟩
      · wp_walk using wpAny_loadPart' hl, wpAny_pyIter_tuple hL
        exact ⟨_, rfl, h⟩
    · wp_walk using wpAny_loadPart' hl, wpAny_pyIter_tuple hL
      exact ⟨_, rfl, h⟩
theorem drawsT {prog : Program} {w : World} {A : Around} (hh : A.handled = none) (it l : Addr) (hne : l ≠ it) (items : Array Value) :
    Draws prog w A it [it, l] items.size (fun i v => items[i]? = some v) (fun i h => h.IsTupleIter it l i ∧ h.IsTuple l items) where
  live := fun _ _ st => let ⟨o, ho, _⟩ := st.1; ⟨o, ho⟩
  frame := fun _ _ _ st hk => ⟨let ⟨o, ho, r⟩ := st.1; ⟨o, hk it (by simp) o ho, r⟩, let ⟨o, ho, r⟩ := st.2; ⟨o, hk l (by simp) o ho, r⟩⟩
  item := fun i s Q E hi st hQ => by
    refine RZ.nextOf_tuple_item st.1 st.2 (x := items[i]) (by simp [hi]) fun h' hit' hs' => ?_
    exact hQ _ h' s.toks (by simp [hi]) ⟨hit', st.2.extBut hs'.extBut hne⟩ hs'
  done := fun s Q E st hE => RZ.nextOf_tuple_end hh st.1 st.2 (by simp) hE
section
variable {prog : Program} {w : World} {A : Around} {E : Value → Shared → Prop} {s : Shared}
theorem call_enumerate_tuple {l : Addr} {items : Array Value} {Q : Value → Shared → Prop} (hL : s.heap.IsTuple l items)
    (h : ∀ h', IsEnum h' (s.heap.objs.size + 1) s.heap.objs.size 0 .none → h'.IsTupleIter s.heap.objs.size l 0 → h'.objs.size = s.heap.objs.size + 2 →
      (∀ b o, s.heap.get? b = some o → h'.get? b = some o) → Q (.ref (s.heap.objs.size + 1)) { s with heap := h' }) :
    wpAny (model prog w) A (call (.type "enumerate") [.ref l]) Q E s := by
  obtain ⟨⟨c, dct, dt, sl⟩, hl, hc, n, hd⟩ := hL
  replace hc : c = .type "tuple" := hc
  replace hd : dt = .seq items n := hd
  subst hc hd
  refine callType_new F.called_enumerate (by decide) (F.typeCall_enumerate_1 _) (F.newCall_enumerate_1 _) (fun obj => F.args_object_init_2 obj _) F.entry_enumerate_new
    (meets_enumerate_newT l items n dct sl) ⟨hl, ?_⟩
  have hz : (s.heap.push { cls := .type "tuple_iterator", data := .fields #[.ref l, .int 0 0] }).objs.size = s.heap.objs.size + 1 := Heap.size_push ..
  show _ ∧ _
  rw [hz]
  have he : IsEnum ((s.heap.push { cls := .type "tuple_iterator", data := .fields #[.ref l, .int 0 0] }).push
      { cls := .type "enumerate", data := .fields #[.none, .bool false, .ref s.heap.objs.size, rawInt 0, .none, .none] }) (s.heap.objs.size + 1) s.heap.objs.size 0 .none := by
    have := Heap.get?_push_size (s.heap.push { cls := .type "tuple_iterator", data := .fields #[.ref l, .int 0 0] })
      (o := { cls := .type "enumerate", data := .fields #[.none, .bool false, .ref s.heap.objs.size, rawInt 0, .none, .none] }) rfl
    rw [hz] at this; exact this
  refine ⟨⟨_, he, rfl⟩, h _ he ⟨_, Heap.get?_push_of_some _ (Heap.get?_push_size _ rfl), rfl, rfl⟩ (by rw [Heap.size_push, hz]) fun b o x => Heap.get?_push_of_some _ (Heap.get?_push_of_some _ x)⟩
end
open L2 PyProof.Rows
/-- the tuple at a, each item in a new pair -/
def IteT (K : PySem.W.Frag) (a : Addr) : It :=
  ⟨fun i H => ∃ (xs : List V) (x : V), SqT K H a xs ∧ xs[i]? = some x, fun i H v H' => ∃ T x, v = .ref T ∧ H T = none ∧ H' = upd H T (.tup [.int (i : Nat), x]) ∧ ∀ xs, SqT K H a xs → xs[i]? = some x, fun i H => ∃ xs : List V, SqT K H a xs ∧ xs.length ≤ i⟩
theorem turn_enumT {P : Program} {w : World} {K : PySem.W.Frag} {elts : List Expr} {kk : Nat} {tpos : Pos} (a e it : Addr) (items : Array Value) :
    Turn P w K (.Tuple elts kk tpos) (IteT K a) [e, it] e (fun i h => (∃ old, IsEnum h e it ((i : Nat) : Int) old) ∧ h.IsTupleIter it a i ∧ e ≠ it) where
  mem := by simp
  obj := fun i h st b hb => by
    obtain ⟨⟨old, he⟩, ⟨o, ho, hc, hd⟩, _⟩ := st
    have e' : b = e ∨ b = it := by simpa using hb
    rcases e' with z | z
    · rw [z]; exact ⟨_, he, fun v q => nomatch q⟩
    · rw [z]; exact ⟨o, ho, fun v q => by rw [hd] at q; cases q⟩
  keep := fun i h h' st k => let ⟨⟨old, he⟩, ⟨o, ho, r⟩, hne⟩ := st; ⟨⟨old, k e (by simp) _ he⟩, ⟨o, k it (by simp) o ho, r⟩, hne⟩
  item := by
    intro X hP hw hK hc i pins s σ H E I hf st hg
    subst hP hw hK
    obtain ⟨⟨old, he⟩, hit, hne⟩ := st
    obtain ⟨xs, x, hq, hx⟩ := hg
    obtain ⟨its, rv, p, hz⟩ := I.tuple hq
    have p : s.heap.IsTuple a its.toArray := p
    obtain ⟨u, hu, ru⟩ := rv.get hx
    have hel : e < s.heap.objs.size := Heap.lt_size he
    have hil : it < s.heap.objs.size := by obtain ⟨_, q, _⟩ := hit; exact Heap.lt_size q
    have hai : a ≠ it := fun z => by
      obtain ⟨o1, q1, c1, _⟩ := p
      obtain ⟨o2, q2, c2, _⟩ := hit
      rw [z, q2] at q1
      cases q1
      rw [c1] at c2
      exact absurd (Value.type.inj c2) (by decide)
    have hae : a ≠ e := fun z => by
      obtain ⟨o1, q1, c1, _⟩ := p
      have he : s.heap.get? e = _ := he
      rw [z, he] at q1
      cases q1
      exact absurd (Value.type.inj c1) (by decide)
    have hli : i < its.toArray.size := by
      have := (List.getElem?_eq_some_iff.mp hu).1
      simpa using this
    refine wpAny_pyNext_enum_itemD (drawsT (A := X.A.in1) (I.ok.hd hc) it a hai its.toArray) he ⟨hit, p⟩ hli hne (by simp [hne]; exact fun z => hae z.symm) fun y h' tk hy ho hst hT hsz hk => ?_
    have ey : y = u := by
      have hu' : its.toArray[i]? = some u := by simpa using hu
      exact Option.some.inj (hy.symm.trans hu')
    subst ey
    obtain ⟨hit', _⟩ := hst
    refine ⟨_, rfl, wpAny_letOwnedTupleGo_enum (s := { s with heap := h', toks := tk + 1 }) ho fun h'' he' sb => ?_⟩
    have hT2 : h''.get? s.heap.objs.size = some { cls := .type "tuple", data := .seq #[.int i tk, y] } := (sb.2 _ (Nat.ne_of_gt hel)).trans hT
    have new : ObjOk X.prog X.w (upd H s.heap.objs.size (.tup [.int (i : Nat), x])) h'' s.heap.objs.size (.tup [.int (i : Nat), x]) :=
      ⟨by show 2 ≤ sizeLine; decide, [.int i tk, y], .cons ⟨_, rfl⟩ (.cons ru .nil), ⟨_, hT2, rfl, _, rfl⟩⟩
    have I1 : Inv X pins σ (upd H s.heap.objs.size (.tup [.int (i : Nat), x])) { s with heap := h'', toks := tk + 1 } :=
      I.turnedNew (ch := [e, it]) (fun b ob hb q => (sb.2 b (fun z => hb (by simp [z]))).trans (hk b ob (fun z => hb (by simp [z])) (fun z => hb (by simp [z])) q)) hf (Nat.le_refl _) new
    refine ⟨.ref s.heap.objs.size, _, I1, rfl, ⟨_, x, rfl, I.hok.fresh (Nat.le_refl _), rfl, fun ys hy => by rw [I.tuple_inj hy hq]; exact hx⟩, ⟨⟨y, ?_⟩, ?_, hne⟩, fun b hb => ?_⟩
    · have e1 : ((i + 1 : Nat) : Int) = (i : Int) + 1 := by omega
      rw [e1]; exact he'
    · obtain ⟨o, q, r⟩ := hit'
      exact ⟨o, (sb.2 it (Ne.symm hne)).trans q, r⟩
    · have hb' : b < s.heap.objs.size := by
        have e' : b = e ∨ b = it := by simpa using hb
        rcases e' with z | z
        · rw [z]; exact hel
        · rw [z]; exact hil
      rw [upd_ne (Nat.ne_of_lt hb')]
      exact (hf b hb).1
  done := by
    intro X hP hw hK hc i pins s σ H E I hf st hg
    subst hP hw hK
    obtain ⟨⟨old, he⟩, hit, hne⟩ := st
    obtain ⟨xs, hq, hx⟩ := hg
    obtain ⟨its, rv, p, hz⟩ := I.tuple hq
    have p : s.heap.IsTuple a its.toArray := p
    obtain ⟨f0, f1, f2, f3, f4, f5⟩ := hf it (by simp)
    have hl := rv.length
    have hT : s.TypeIs (.ref e) "enumerate" := ⟨_, he, rfl⟩
    unfold pyNext
    refine wpAny_bind (wpAny_attempt (wpAny_callSpecial?_slot (name := Str.ofString "__next__") hT F.slot_enumerate_next
      (wpAny_call_entry F.slot_enumerate_next hT F.entry_enumerate_next ?_ (F.args_enumerate_next_1 _))))
    show wpAny _ _ (field (.ref e) 2 >>= _) _ _ _
    refine wpAny_bind (wpAny_field he rfl (x := .ref it) rfl ?_)
    refine wpAny_bind (RZ.nextOf_tuple_end (A := X.A.in1) (I.ok.hd hc) hit p (by simp; omega) fun h' x he' hx' => ?_)
    obtain ⟨o, ho, hcl⟩ := hx'
    refine wpAny_bind (wpAny_isInstance (T := "StopIteration") (b := true) ⟨o, ho, hcl⟩ isSubtype_stop ?_)
    exact wpAny_pure ⟨rfl, I.turned (t' := s.toks) (fun b o hb q => he' b o hb q) f0 f1 f3 f4 f5⟩
  self := fun A i s Q E st h => let ⟨⟨_, he⟩, _⟩ := st; wpAny_pyIter_enum he h
def iEnumA (K : PySem.W.Frag) (ta : TA) : TI := fun σ H R => ta σ H fun vs H1 => ∃ a, vs = [.ref a] ∧ (((∃ xs, SqL K H1 a xs) ∧ R (Ite K a) H1) ∨ ((∃ xs, SqT K H1 a xs) ∧ R (IteT K a) H1))
theorem pi_enumA {X : Cx} {e : Expr} {ta : TA} {p pos tpos : Pos} {elts : List Expr} {kk : Nat} (hg : Gl X "enumerate") (hm : X.mg "enumerate" = none) (ha : PA X [e] ta) (hs : starEach [e] X.env = [(false, eval e X.env)] := by rfl) :
    PI X (.Tuple elts kk tpos) (.Call (.Name "enumerate" p) [e] [] pos) (iEnumA X.K ta) := by
  refine ⟨fun pins s σ H R I h => ?_⟩
  refine Call_ (ld_blt I hg hm boot_enumerate (PyProof.Rows.callWith_type1 (thn (ha.run pos pins s σ H _ I h) fun us s1 ⟨vs, H1, I1, r1, q1⟩ => ?_) hs rfl))
  obtain ⟨a, ex, q1⟩ := q1
  subst ex
  cases r1 with
  | cons r rr =>
    cases rr
    cases r
    have fr : ∀ b ∈ [s1.heap.objs.size + 1, s1.heap.objs.size], FpOk X pins H1 b := fun b hb => by
      have e' : b = s1.heap.objs.size + 1 ∨ b = s1.heap.objs.size := by simpa using hb
      have hle : s1.heap.objs.size ≤ b := by
        rcases e' with z | z
        · rw [z]; exact Nat.le_add_right _ _
        · rw [z]; exact Nat.le_refl _
      exact I1.fpOk hle (I1.hok.fresh hle)
    rcases q1 with ⟨⟨xs, hq⟩, q⟩ | ⟨⟨xs, hq⟩, q⟩
    · obtain ⟨its, rv, p', hz⟩ := I1.list hq
      refine call_enumerate_list p'.isList fun h' he hit hsz hk => wpAny_pyIter_enum he ?_
      exact ⟨s1.heap.objs.size + 1, [s1.heap.objs.size + 1, s1.heap.objs.size], _, _, H1, rfl, I1.kept (t' := s1.toks) hk, turn_enum a (s1.heap.objs.size + 1) s1.heap.objs.size, ⟨⟨.none, he⟩, hit, Nat.succ_ne_self _⟩, fr, q⟩
    · obtain ⟨its, rv, p', hz⟩ := I1.tuple hq
      refine call_enumerate_tuple (show s1.heap.IsTuple a its.toArray from p') fun h' he hit hsz hk => wpAny_pyIter_enum he ?_
      exact ⟨s1.heap.objs.size + 1, [s1.heap.objs.size + 1, s1.heap.objs.size], _, _, H1, rfl, I1.kept (t' := s1.toks) hk, turn_enumT a (s1.heap.objs.size + 1) s1.heap.objs.size its.toArray, ⟨⟨.none, he⟩, hit, Nat.succ_ne_self _⟩, fr, q⟩
theorem gives_enumT {K : Fg} {a : Addr} {ds : List D} {xs : List V} {F0 : Hp} (h : SqT K F0 a xs) (r : Reps K F0 ds xs) : Gives K (IteT K a) (pairs (rng 0 ds.length) ds) F0 := by
  intro i F H s1 s2
  have q : SqT K H a xs := SqT.sub s2 (SqT.sub s1 h)
  have hl : (pairs (rng 0 ds.length) ds).length = ds.length := by simp [pairs, rng]
  refine ⟨fun h => ⟨xs, q, by rw [← r.length, ← hl]; exact h⟩, fun d hd => ?_⟩
  have hi : i < ds.length := by
    have := (List.getElem?_eq_some_iff.mp hd).1
    omega
  obtain ⟨v, hv, rv⟩ := r.get (List.getElem?_eq_getElem hi)
  have ed : d = .tup [.int ((i : Nat) : Int), ds[i]] := by
    have e1 : (pairs (rng 0 ds.length) ds)[i]? = some (.tup [.int ((i : Nat) : Int), ds[i]]) := by
      have l1 : i < (pairs (rng 0 ds.length) ds).length := by rw [hl]; exact hi
      rw [List.getElem?_eq_getElem l1]
      simp [pairs, rng]
    rw [e1] at hd
    exact (Option.some.inj hd).symm
  subst ed
  refine ⟨⟨xs, v, q, hv⟩, fun w H' ⟨T, x, e1, hT, e2, hx⟩ => ?_⟩
  have := hx xs q
  rw [hv] at this
  cases this
  subst e1
  have fT : F T = none := by
    cases z : F T with
    | none => rfl
    | some o => rw [s2 _ _ z] at hT; cases hT
  have sb : Sub F (upd F T (.tup [.int ((i : Nat) : Int), v])) := fun c u e => by rw [upd_ne (fun z => by rw [z, fT] at e; cases e)]; exact e
  exact ⟨_, .inr ⟨T, _, hT, rfl, e2⟩, .tup (SqT.of upd_same) (.cons (.int _) (.cons (rv.sub (s1.trans sb)) .nil))⟩
def kEnumA (x : D) : Option (List D) := match x with
  | .lst ds => some (pairs (rng 0 ds.length) ds)
  | .tup ds => some (pairs (rng 0 ds.length) ds)
  | _ => none
theorem pi_enumAD {X : Cx} {W : WX} {f : DE} {e : Expr} {p pos tpos : Pos} {elts : List Expr} {kk : Nat} (hg : Gl X "enumerate") (hm : X.mg "enumerate" = none) (ha : PE X e (LE X.K X.mg W f)) (hs : starEach [e] X.env = [(false, eval e X.env)] := by rfl)
    (hs2 : starEach (e :: []) X.env = (false, eval e X.env) :: starEach [] X.env := by rfl) : PI X (.Tuple elts kk tpos) (.Call (.Name "enumerate" p) [e] [] pos) (LI X.K X.mg W (itD f kEnumA)) :=
  PI.imp (pi_enumA hg hm (pa_one ha hs2) hs) fun σ H R0 h => LI.dat h fun x v ds ρ F H1 rs rp e q => by
    cases rp with
    | lst h1 h2 =>
      cases e
      exact ⟨_, rfl, .inl ⟨⟨_, SqL.of (rs.sub _ _ h1)⟩, q _ (gives_enum h1 h2)⟩⟩
    | tup h1 h2 =>
      cases e
      exact ⟨_, rfl, .inr ⟨⟨_, SqT.sub rs.sub h1⟩, q _ (gives_enumT h1 h2)⟩⟩
    | _ => cases e
end Dn
end

section
set_option Elab.async false
set_option linter.all false
set_option maxRecDepth 100000
set_option maxHeartbeats 4000000
/-! Dn: defs by name; the head's end. -/
namespace Dn
open PySem PySem.Spec L2
section
variable {K : Fg} {mg : MG} {W : WX} {t : Dx Bool} {f : DE}
section
variable {X : Cx} {a : Expr} {pos : Pos}
theorem pw_and1D (ha : PT X a (LT X.K X.mg W t)) : PW X (.BoolOp .And [a] pos) (LT X.K X.mg W t) := pw_and1 ha
theorem pw_or1D (ha : PT X a (LT X.K X.mg W t)) : PW X (.BoolOp .Or [a] pos) (LT X.K X.mg W t) := pw_or1 ha
end
/-- the def of the name nm is there, of the parameters ps, and is fn -/
structure Has (P : Program) (w : World) (K : Fg) (mg : MG) (base : Heap) (k : Nat) (nm : Str) (ps : List Str) (n : Nat) (fn : FD) : Prop where
  ex : ∃ fA fd, mg nm = some (.ref fA) ∧ PySem.W.keepIn K (.ref fA) = true ∧ Binds K fd ps [] ∧ FnG P w K mg base k fA fd ps (spD K mg n fn)
variable {P : Program} {w : World} {base : Heap} {j k : Nat} {nm : Str} {ps : List Str} {n : Nat} {fn : FD}
theorem Has.mono (h : Has P w K mg base j nm ps n fn) (hk : j ≤ k) : Has P w K mg base k nm ps n fn := by
  obtain ⟨fA, fd, a, b, c, d⟩ := h.ex
  exact ⟨fA, fd, a, b, c, d.mono hk⟩
/-- a def that gives nothing -/
theorem fn_zero {fA : Addr} {fd : FuncData} : FnG P w K mg base k fA fd ps (spD K mg n fun _ => none) :=
  ⟨fun vs H Q E ⟨ss, F, r, outs, _, _, e, _⟩ => (nomatch e), fun A outer s H args us vs Q E _ _ _ _ _ ⟨ss, F, r, outs, _, _, e, _⟩ => (nomatch e)⟩
theorem has_of {qual : Str} {params : Arguments} {body : List Stmt} {scope : Scope} {fA : Addr} {fd : FuncData} (F : FunD K nm qual params body scope [] [] fA fd) (g : mg nm = some (.ref fA)) (b : Binds K fd ps [])
    (h : FnG P w K mg base k fA fd ps (spD K mg n fn)) : Has P w K mg base k nm ps n fn := ⟨fA, fd, g, F.kp, b, h⟩
section
variable {X : Cx} {e : Expr} {es : List Expr} {fs : List DE} {p pos : Pos}
theorem pe_us (Hf : Has X.prog X.w X.K X.mg X.base k nm ps n fn) (hr : Room k X.A) (hG : X.A.guards = some []) (tk : Takes X W) (hg : Gl X nm) (ha : PA X (e :: es) (LA X.K X.mg W fs)) (hn : fs.length = n := by rfl) (hdb : (nm == ("__debug__" : Str)) = false := by decide)
    (he : starEach (e :: es) X.env = (false, eval e X.env) :: starEach es X.env := by rfl) (hpl : (backTo pos (starEach es X.env)).any (·.1) = false := by rfl) : PE X (.Call (.Name nm p) (e :: es) [] pos) (LE X.K X.mg W (dCall fn fs [])) := by
  obtain ⟨fA, fd, hm, hk, hb, Fn⟩ := Hf.ex
  exact pe_fnD Fn hr hG tk hg hm hk hb .nil (fun _ => .nil) (by rw [hn]; rfl) ha hdb he hpl
end
theorem _root_.L2.Room.un200 {k : Nat} {A : Around} (hr : Room k A) : A.units + 200 < cLine := by
  have := hr.un
  omega
theorem _root_.L2.Room.un64 {k : Nat} {A : Around} (hr : Room k A) : A.units + 64 < cLine := by
  have := hr.un
  omega
theorem _root_.L2.Room.un65 {k : Nat} {A : Around} (hr : Room k A) : A.units + 65 < cLine := by
  have := hr.un
  omega
theorem pe_gloE {X : Cx} {nm : Str} {pos : Pos} {x : D} (hg : Gl X nm) (h : ∃ v u, X.mg nm = some u ∧ RelV v u ∧ ∀ F, Rep X.K F x v) (hd : (nm == ("__debug__" : Str)) = false := by decide) : PE X (.Name nm pos) (LE X.K X.mg W (xC x)) := by
  obtain ⟨v, u, h1, h2, h3⟩ := h
  exact pe_gloD hg h1 h2 h3 hd
/-- the law's entry -/
theorem entry {fn : FD} {H : Hp} {a : Addr} {ns : List Int} {outs : List Dn.S} (hS : SqL K H a (ns.map V.int)) (e : fn [.d (.src ns)] = some (.ok (.d (.bl true)), outs)) : spD K mg 1 fn [.ref a] H (fun v _ => v = .bl true) fun _ _ _ => False :=
  ⟨[.d (.src ns)], H, .ok (.d (.bl true)), outs, ⟨Sub.refl, rfl, fun i x h => by
    cases i with
    | zero =>
      cases h
      exact ⟨_, rfl, .src hS⟩
    | succ i => simp [sl, gt] at h, fun i x h => by
    cases i with
    | zero => cases h
    | succ i => simp [sl, gt] at h, fun i j x y p h => by
    cases i with
    | zero => cases h
    | succ i => simp [sl, gt] at h⟩, rfl, e, fun F' H' rs g v rr => by
    cases rr
    rfl⟩
/-! ### a module's tuple of texts -/
def dvD : He.Dv → D
  | .bl b => .bl b
  | .int i => .int i
  | .str x => .str x
  | _ => .non
def flatDv : He.Dv → Bool
  | .non => true
  | .bl _ => true
  | .int _ => true
  | .str _ => true
  | _ => false
theorem reps_dv {F : Hp} : ∀ {vs : List He.Dv}, vs.all flatDv = true → Reps K F (vs.map dvD) (vs.map (He.Dv.v K))
  | [], _ => .nil
  | v :: vs, h => by
    rw [List.all_cons, Bool.and_eq_true] at h
    refine .cons ?_ (reps_dv h.2)
    cases v with
    | non => exact .non
    | bl b => exact .bl b
    | int i => exact .int i
    | str x => exact .str x
    | _ => cases h.1
theorem rep_tupB {x : Str} {vs : List He.Dv} (h : He.tupB K x vs = true) (hf : vs.all flatDv = true) (F : Hp) : Rep K F (.tup (vs.map dvD)) (.ref (He.ga K x)) := .tup (He.tupB_ok h F) (reps_dv hf)
end
end Dn
end

section
set_option Elab.async false
set_option linter.all false
set_option maxRecDepth 100000
set_option maxHeartbeats 4000000
/-! Dn: what a function on data gives, by its parts (no program in sight). -/
namespace Dn
open PySem PySem.Spec L2
@[irreducible] def wE {α : Type} (f : Dx α) (ρ : Env) (Q : α → Env → Prop) (E : Exn → Env → Prop) : Prop := match f ρ with
  | some (.ok a, ρ') => Q a ρ'
  | some (.error x, ρ') => E x ρ'
  | none => False
@[irreducible] def wS (g : DS) (ρ : Env) (Q : Ctl → Env → Prop) : Prop := match g ρ with
  | some (c, ρ') => Q c ρ'
  | none => False
@[irreducible] def wF (f : FD) (ss : List S) (Q : R → List S → Prop) (E : Exn → List S → Prop) : Prop := match f ss with
  | some (.ok r, o) => Q r o
  | some (.error x, o) => E x o
  | none => False
def wP {α : Type} (o : Option α) (P : α → Prop) : Prop := match o with
  | some x => P x
  | none => False
@[simp] theorem wP_some {α : Type} {x : α} {P : α → Prop} : wP (some x) P ↔ P x := Iff.rfl
@[simp] theorem wP_none {α : Type} {P : α → Prop} : wP none P ↔ False := Iff.rfl
theorem wP_ex {α : Type} {o : Option α} {P : α → Prop} : wP o P ↔ ∃ x, o = some x ∧ P x := by
  cases o <;> simp
theorem wP_map {α β : Type} {o : Option α} {f : α → β} {P : β → Prop} : wP (o.map f) P ↔ wP o fun x => P (f x) := by
  cases o <;> rfl
theorem wF.mono {f : FD} {ss : List S} {Q Q' : R → List S → Prop} {E E' : Exn → List S → Prop} (h : wF f ss Q E) (q : ∀ r o, Q r o → Q' r o) (e : ∀ x o, E x o → E' x o) : wF f ss Q' E' := by
  unfold wF at h ⊢
  cases z : f ss with
  | none => rw [z] at h; exact h
  | some w =>
    obtain ⟨r, o⟩ := w
    rw [z] at h
    cases r with
    | ok a => exact q _ _ h
    | error x => exact e _ _ h
theorem wS.mono {g : DS} {ρ : Env} {Q Q' : Ctl → Env → Prop} (h : wS g ρ Q) (q : ∀ c ρ', Q c ρ' → Q' c ρ') : wS g ρ Q' := by
  unfold wS at h ⊢
  cases z : g ρ with
  | none => rw [z] at h; exact h
  | some w => rw [z] at h; exact q _ _ h
theorem wE.mono {α : Type} {f : Dx α} {ρ : Env} {Q Q' : α → Env → Prop} {E E' : Exn → Env → Prop} (h : wE f ρ Q E) (q : ∀ r o, Q r o → Q' r o) (e : ∀ x o, E x o → E' x o) : wE f ρ Q' E' := by
  unfold wE at h ⊢
  cases z : f ρ with
  | none => rw [z] at h; exact h
  | some w =>
    obtain ⟨r, o⟩ := w
    rw [z] at h
    cases r with
    | ok a => exact q _ _ h
    | error x => exact e _ _ h
/-- the end of a proof about F -/
theorem wF.run {f : FD} {ss : List S} {Q : R → List S → Prop} (h : wF f ss Q fun _ _ => False) : ∃ r o, f ss = some (.ok r, o) ∧ Q r o := by
  unfold wF at h
  cases z : f ss with
  | none => rw [z] at h; exact h.elim
  | some w =>
    obtain ⟨r, o⟩ := w
    rw [z] at h
    cases r with
    | ok a => exact ⟨a, o, rfl, h⟩
    | error x => exact h.elim
/-! ### environments -/
@[simp] theorem gt_zero {a : Option S} {ρ : Env} : gt (a :: ρ) 0 = a := rfl
@[simp] theorem gt_succ {a : Option S} {ρ : Env} {i : Nat} : gt (a :: ρ) (i + 1) = gt ρ i := rfl
@[simp] theorem sd_d {x : D} : sd (some (.d x)) = some x := rfl
@[simp] theorem sd_o {x : D} : sd (some (.o x)) = some x := rfl
@[simp] theorem sd_n : sd none = none := rfl
@[simp] theorem pk_d {ρ : Env} {x : D} : pk ρ (.d x) = some x := rfl
@[simp] theorem pk_s {ρ : Env} {i : Nat} : pk ρ (.s i) = sd (gt ρ i) := rfl
@[simp] theorem nrm_d {x : D} : nrm (.d x) = .d x := rfl
@[simp] theorem nrm_o {x : D} : nrm (.o x) = .d x := rfl
@[simp] theorem nrm_s {i : Nat} : nrm (.s i) = .s i := rfl
@[simp] theorem pks_nil {ρ : Env} : pks ρ [] = some [] := rfl
@[simp] theorem pks_cons {ρ : Env} {a : R} {as : List R} {P : List D → Prop} : wP (pks ρ (a :: as)) P ↔ wP (pk ρ a) fun x => wP (pks ρ as) fun xs => P (x :: xs) := by
  show wP (match pk ρ a, pks ρ as with
    | some x, some xs => some (x :: xs)
    | _, _ => none) P ↔ _
  cases pk ρ a with
  | none => rfl
  | some x => cases pks ρ as <;> rfl
@[simp] theorem frz_d {ρ : Env} {j : Nat} {x : D} (h : gt ρ j = some (.d x)) : frzS ρ j = some (x, ρ) := by
  unfold frzS
  rw [h]
@[simp] theorem frz_o {ρ : Env} {j : Nat} {x : D} (h : gt ρ j = some (.o x)) : frzS ρ j = some (x, ρ.set j (some (.d x))) := by
  unfold frzS
  rw [h]
@[simp] theorem toD_d {ρ : Env} {x : D} : toD ρ (.d x) = some (x, ρ) := rfl
@[simp] theorem toD_o {ρ : Env} {x : D} : toD ρ (.o x) = some (x, ρ) := rfl
@[simp] theorem toD_s {ρ : Env} {j : Nat} : toD ρ (.s j) = frzS ρ j := rfl
@[simp] theorem toDs_nil {ρ : Env} {P : List D × Env → Prop} : wP (toDs ρ []) P ↔ P ([], ρ) := Iff.rfl
@[simp] theorem toDs_cons {ρ : Env} {a : R} {as : List R} {P : List D × Env → Prop} : wP (toDs ρ (a :: as)) P ↔ wP (toD ρ a) fun p => wP (toDs p.2 as) fun q => P (p.1 :: q.1, q.2) := by
  show wP (match toD ρ a with
    | some (x, ρ1) => (match toDs ρ1 as with
      | some (xs, ρ2) => some (x :: xs, ρ2)
      | none => none)
    | none => none) P ↔ _
  cases toD ρ a with
  | none => rfl
  | some w =>
    obtain ⟨x, ρ1⟩ := w
    show wP (match toDs ρ1 as with
      | some (xs, ρ2) => some (x :: xs, ρ2)
      | none => none) P ↔ _
    simp only [wP_some]
    cases toDs ρ1 as with
    | none => rfl
    | some w => rfl
section
variable {α β : Type} {ρ : Env} {f fa fb : DE} {x : D} {Q : R → Env → Prop} {E : Exn → Env → Prop} {i : Nat}
/-! ### expressions -/
@[simp] theorem wE_r {a : α} {Q : α → Env → Prop} : wE (rE a) ρ Q E ↔ Q a ρ := by unfold wE; rfl
@[simp] theorem wE_b {g : Dx α} {k : α → Dx β} {Q : β → Env → Prop} : wE (bE g k) ρ Q E ↔ wE g ρ (fun a ρ1 => wE (k a) ρ1 Q E) E := by
  unfold wE bE
  cases g ρ with
  | none => rfl
  | some w =>
    obtain ⟨r, ρ1⟩ := w
    cases r <;> rfl
@[simp] theorem wE_c : wE (xC x) ρ Q E ↔ Q (.d x) ρ := by unfold wE; rfl
def wV (s : Option S) (i : Nat) (ρ : Env) (Q : R → Env → Prop) : Prop := match s with
  | some (.d x) => Q (.d x) ρ
  | some (.o _) => Q (.s i) ρ
  | none => False
@[simp] theorem wV_d : wV (some (.d x)) i ρ Q ↔ Q (.d x) ρ := Iff.rfl
@[simp] theorem wV_o : wV (some (.o x)) i ρ Q ↔ Q (.s i) ρ := Iff.rfl
@[simp] theorem wE_v : wE (xVar i) ρ Q E ↔ wV (gt ρ i) i ρ Q := by
  unfold wE xVar wV
  cases gt ρ i with
  | none => rfl
  | some s => cases s <;> rfl
@[simp] theorem wE_1 {k : D → Option R} : wE (o1 f k) ρ Q E ↔ wE f ρ (fun a ρ1 => wP (pk ρ1 (nrm a)) fun x => wP (k x) fun r => Q r ρ1) E := by
  unfold o1
  rw [wE_b]
  unfold wE
  cases f ρ with
  | none => rfl
  | some w =>
    obtain ⟨r, ρ1⟩ := w
    cases r with
    | error x => rfl
    | ok a =>
      dsimp only
      cases pk ρ1 (nrm a) with
      | none => rfl
      | some x =>
        unfold lft wP
        dsimp only
        cases k x <;> rfl
@[simp] theorem wE_2 {k : D → D → Option R} : wE (o2 fa fb k) ρ Q E ↔ wE fa ρ (fun a ρ1 => wE fb ρ1 (fun b ρ2 => wP (pk ρ2 (nrm a)) fun x => wP (pk ρ2 (nrm b)) fun y => wP (k x y) fun r => Q r ρ2) E) E := by
  unfold o2
  rw [wE_b]
  unfold wE
  cases fa ρ with
  | none => rfl
  | some w =>
    obtain ⟨r, ρ1⟩ := w
    cases r with
    | error x => rfl
    | ok a =>
      dsimp only
      unfold bE
      cases fb ρ1 with
      | none => rfl
      | some w =>
        obtain ⟨r, ρ2⟩ := w
        cases r with
        | error x => rfl
        | ok b =>
          dsimp only
          cases pk ρ2 (nrm a) with
          | none => rfl
          | some x =>
            cases pk ρ2 (nrm b) with
            | none => rfl
            | some y =>
              unfold lft wP
              dsimp only
              cases k x y <;> rfl
@[simp] theorem wE_A0 {Q : List R → Env → Prop} : wE (eA []) ρ Q E ↔ Q [] ρ := by unfold wE; rfl
@[simp] theorem wE_A {fs : List DE} {Q : List R → Env → Prop} : wE (eA (f :: fs)) ρ Q E ↔ wE f ρ (fun a ρ1 => wE (eA fs) ρ1 (fun as => Q (nrm a :: as)) E) E := by
  show wE (bE f fun a => bE (eA fs) fun as => rE (nrm a :: as)) ρ Q E ↔ _
  simp
@[simp] theorem wE_L0 {Q : List R → Env → Prop} : wE (eL []) ρ Q E ↔ Q [] ρ := by unfold wE; rfl
@[simp] theorem wE_L {fs : List DE} {Q : List R → Env → Prop} : wE (eL (f :: fs)) ρ Q E ↔ wE f ρ (fun a ρ1 => wE (eL fs) ρ1 (fun as => Q (a :: as)) E) E := by
  show wE (bE f fun a => bE (eL fs) fun as => rE (a :: as)) ρ Q E ↔ _
  simp
@[simp] theorem wE_N {fs : List DE} {k : List D → Option R} : wE (oN fs k) ρ Q E ↔ wE (eA fs) ρ (fun as ρ1 => wP (pks ρ1 as) fun xs => wP (k xs) fun r => Q r ρ1) E := by
  unfold oN
  rw [wE_b]
  unfold wE
  cases eA fs ρ with
  | none => rfl
  | some w =>
    obtain ⟨r, ρ1⟩ := w
    cases r with
    | error x => rfl
    | ok as =>
      dsimp only
      cases pks ρ1 as with
      | none => rfl
      | some xs =>
        unfold lft wP
        dsimp only
        cases k xs <;> rfl
theorem wE_D {fs : List DE} {k : List D → Option R} : wE (dN fs k) ρ Q E ↔ wE (eA fs) ρ (fun as ρ1 => wP (toDs ρ1 as) fun p => wP (k p.1) fun r => Q r p.2) E := by
  unfold dN
  rw [wE_b]
  unfold wE
  cases eA fs ρ with
  | none => rfl
  | some w =>
    obtain ⟨r, ρ1⟩ := w
    cases r with
    | error x => rfl
    | ok a =>
      dsimp only
      cases toDs ρ1 a with
      | none => rfl
      | some w =>
        obtain ⟨xs, ρ2⟩ := w
        unfold lft wP
        dsimp only
        cases k xs <;> rfl
@[simp] theorem wE_tup {fs : List DE} : wE (xTup fs) ρ Q E ↔ wE (eA fs) ρ (fun as ρ1 => wP (toDs ρ1 as) fun p => Q (.d (.tup p.1)) p.2) E := by
  unfold xTup
  rw [wE_D]
  rfl
@[simp] theorem wE_lst {fs : List DE} : wE (xLst fs) ρ Q E ↔ wE (eA fs) ρ (fun as ρ1 => wP (toDs ρ1 as) fun p => Q (.o (.lst p.1)) p.2) E := by
  unfold xLst
  rw [wE_D]
  rfl
@[simp] theorem wE_if {t : Dx Bool} : wE (xIf t fa fb) ρ Q E ↔ wE t ρ (fun b ρ1 => if b = true then wE fa ρ1 Q E else wE fb ρ1 Q E) E := by
  unfold xIf
  rw [wE_b]
  have : (fun (b : Bool) ρ1 => wE (if b = true then fa else fb) ρ1 Q E) = fun b ρ1 => if b = true then wE fa ρ1 Q E else wE fb ρ1 Q E := by
    funext b ρ1
    cases b <;> rfl
  rw [this]
section
variable {t t1 t2 : Dx Bool} {T : Bool → Env → Prop}
def wB (a : R) (ρ : Env) (T : Bool → Env → Prop) : Prop := match a with
  | .d (.bl b) => T b ρ
  | _ => False
@[simp] theorem wB_bl {b : Bool} : wB (.d (.bl b)) ρ T ↔ T b ρ := Iff.rfl
@[simp] theorem wE_tB : wE (tB f) ρ T E ↔ wE f ρ (fun a ρ1 => wB a ρ1 T) E := by
  unfold tB
  rw [wE_b]
  unfold wE
  cases f ρ with
  | none => rfl
  | some w =>
    obtain ⟨r, ρ1⟩ := w
    cases r with
    | error x => rfl
    | ok a =>
      cases a with
      | d x => cases x <;> rfl
      | _ => rfl
@[simp] theorem wE_tV : wE (tV f) ρ T E ↔ wE f ρ (fun a ρ1 => wP (pk ρ1 (nrm a)) fun x => wP (kTru x) fun b => T b ρ1) E := by
  unfold tV
  rw [wE_b]
  unfold wE
  cases f ρ with
  | none => rfl
  | some w =>
    obtain ⟨r, ρ1⟩ := w
    cases r with
    | error x => rfl
    | ok a =>
      dsimp only
      cases pk ρ1 (nrm a) with
      | none => rfl
      | some x =>
        simp only [Option.bind_some, wP_some]
        cases kTru x <;> rfl
@[simp] theorem wE_and : wE (tAn t1 t2) ρ T E ↔ wE t1 ρ (fun b ρ1 => if b = true then wE t2 ρ1 T E else T false ρ1) E := by
  unfold tAn
  rw [wE_b]
  have : (fun (b : Bool) ρ1 => wE (if b = true then t2 else rE false) ρ1 T E) = fun b ρ1 => if b = true then wE t2 ρ1 T E else T false ρ1 := by
    funext b ρ1
    cases b <;> simp
  rw [this]
@[simp] theorem wE_or : wE (tOrr t1 t2) ρ T E ↔ wE t1 ρ (fun b ρ1 => if b = true then T true ρ1 else wE t2 ρ1 T E) E := by
  unfold tOrr
  rw [wE_b]
  have : (fun (b : Bool) ρ1 => wE (if b = true then rE true else t2) ρ1 T E) = fun b ρ1 => if b = true then T true ρ1 else wE t2 ρ1 T E := by
    funext b ρ1
    cases b <;> simp
  rw [this]
@[simp] theorem wE_no : wE (tNo t) ρ T E ↔ wE t ρ (fun b ρ1 => T (!b) ρ1) E := by
  unfold tNo
  simp
end
/-! calls -/
@[simp] theorem toS_nil {P : List S → Prop} : wP (toS ρ []) P ↔ P [] := Iff.rfl
@[simp] theorem toS_d {as : List R} {P : List S → Prop} : wP (toS ρ (.d x :: as)) P ↔ wP (toS ρ as) fun ss => P (.d x :: ss) := by
  show wP ((toS ρ as).map (S.d x :: ·)) P ↔ _
  rw [wP_map]
@[simp] theorem toS_s {as : List R} {P : List S → Prop} : wP (toS ρ (.s i :: as)) P ↔ wP (gt ρ i) fun s => wP (toS ρ as) fun ss => P (s :: ss) := by
  show wP (match gt ρ i, toS ρ as with
    | some s, some ss => some (s :: ss)
    | _, _ => none) P ↔ _
  cases gt ρ i with
  | none => rfl
  | some s => cases toS ρ as <;> rfl
@[simp] theorem slots_nil : slots [] = [] := rfl
@[simp] theorem slots_s {as : List R} : slots (.s i :: as) = i :: slots as := rfl
@[simp] theorem slots_d {as : List R} : slots (.d x :: as) = slots as := rfl
@[simp] theorem wb_nil {os : List S} : wb ρ [] os = ρ := by cases os <;> rfl
@[simp] theorem wb_s {as : List R} {o : S} {os : List S} : wb ρ (.s i :: as) (o :: os) = wb (ρ.set i (some o)) as os := rfl
@[simp] theorem wb_d {as : List R} {o : S} {os : List S} : wb ρ (.d x :: as) (o :: os) = wb ρ as os := rfl
@[simp] theorem wE_call {fd : FD} {fs : List DE} {ds : List D} : wE (dCall fd fs ds) ρ Q E ↔ wE (eA fs) ρ (fun as ρ1 => wP (toS ρ1 as) fun ss => (slots as).Nodup ∧ wF fd (ss ++ ds.map .d) (fun r o => noS (.ok r) = true ∧ Q r (wb ρ1 as o)) fun x o => E x (wb ρ1 as o)) E := by
  unfold dCall
  rw [wE_b]
  unfold wE
  cases eA fs ρ with
  | none => rfl
  | some w =>
    obtain ⟨r, ρ1⟩ := w
    cases r with
    | error x => rfl
    | ok as =>
      dsimp only
      cases toS ρ1 as with
      | none => rfl
      | some ss =>
        simp only [wP_some]
        unfold cEnd wF
        cases fd (ss ++ ds.map .d) with
        | none => simp
        | some w =>
          obtain ⟨r, o⟩ := w
          dsimp only
          by_cases hn : (slots as).Nodup
          · cases r with
            | error x => simp [hn, noS]
            | ok a =>
              by_cases hs : noS (.ok a) = true
              · simp [hn, hs]
              · simp [hn, hs]
          · simp [hn]
/-! slices, methods -/
def wI (a : R) (P : Int → Prop) : Prop := match a with
  | .d (.int i) => P i
  | _ => False
@[simp] theorem wI_int {j : Int} {P : Int → Prop} : wI (.d (.int j)) P ↔ P j := Iff.rfl
@[simp] theorem wE_eNo {Q : Option Int → Env → Prop} : wE eNo ρ Q E ↔ Q none ρ := by unfold wE; rfl
@[simp] theorem wE_eI {Q : Option Int → Env → Prop} : wE (eI f) ρ Q E ↔ wE f ρ (fun a ρ1 => wI a fun i => Q (some i) ρ1) E := by
  unfold eI
  rw [wE_b]
  unfold wE
  cases f ρ with
  | none => rfl
  | some w =>
    obtain ⟨r, ρ1⟩ := w
    cases r with
    | error x => rfl
    | ok a =>
      cases a with
      | d x => cases x <;> rfl
      | _ => rfl
@[simp] theorem wE_sl {lo hi : Dx (Option Int)} : wE (xSl f lo hi) ρ Q E ↔ wE f ρ (fun a ρ1 => wE lo ρ1 (fun l ρ2 => wE hi ρ2 (fun h ρ3 => wP (pk ρ3 (nrm a)) fun x => wP (kSl x l h) fun r => Q r ρ3) E) E) E := by
  unfold xSl
  rw [wE_b]
  unfold wE
  cases f ρ with
  | none => rfl
  | some w =>
    obtain ⟨r, ρ1⟩ := w
    cases r with
    | error x => rfl
    | ok a =>
      dsimp only
      unfold bE
      cases lo ρ1 with
      | none => rfl
      | some w =>
        obtain ⟨r, ρ2⟩ := w
        cases r with
        | error x => rfl
        | ok l =>
          dsimp only
          cases hi ρ2 with
          | none => rfl
          | some w =>
            obtain ⟨r, ρ3⟩ := w
            cases r with
            | error x => rfl
            | ok h =>
              dsimp only
              cases pk ρ3 (nrm a) with
              | none => rfl
              | some x =>
                unfold lft wP
                dsimp only
                cases kSl x l h <;> rfl
@[simp] theorem wE_mR {T : String} {fs : List DE} {k : D → List D → Option R} : wE (mR T f fs k) ρ Q E ↔ wE f ρ (fun a ρ1 => tyD T (pk ρ1 (nrm a)) = true ∧ wE (eA fs) ρ1 (fun as ρ2 => wP (pk ρ2 (nrm a)) fun x => wP (pks ρ2 as) fun xs => wP (k x xs) fun r => Q r ρ2) E) E := by
  unfold mR
  rw [wE_b]
  unfold wE
  cases f ρ with
  | none => rfl
  | some w =>
    obtain ⟨r, ρ1⟩ := w
    cases r with
    | error x => rfl
    | ok a =>
      dsimp only
      by_cases h : tyD T (pk ρ1 (nrm a)) = true
      · simp only [h, if_true, true_and]
        unfold bE
        cases eA fs ρ1 with
        | none => rfl
        | some w =>
          obtain ⟨r, ρ2⟩ := w
          cases r with
          | error x => rfl
          | ok as =>
            dsimp only
            cases pk ρ2 (nrm a) with
            | none => rfl
            | some x =>
              cases pks ρ2 as with
              | none => rfl
              | some xs =>
                unfold lft wP
                dsimp only
                cases k x xs <;> rfl
      · simp [h]
def wOw (a : R) (P : Nat → Prop) : Prop := match a with
  | .s i => P i
  | _ => False
@[simp] theorem wOw_s {P : Nat → Prop} : wOw (.s i) P ↔ P i := Iff.rfl
def wGo (s : Option S) (P : List D → Prop) : Prop := match s with
  | some (.o (.lst ds)) => P ds
  | _ => False
@[simp] theorem wGo_l {ds : List D} {P : List D → Prop} : wGo (some (.o (.lst ds))) P ↔ P ds := Iff.rfl
@[simp] theorem isOwn_l {ds : List D} : isOwnL (some (.o (.lst ds))) = true := rfl
@[simp] theorem wE_mO {fs : List DE} {k : List D → List D → Option (List D × D)} : wE (mO f fs k) ρ Q E ↔ wE f ρ (fun a ρ1 => wOw a fun i => isOwnL (gt ρ1 i) = true ∧ wE (eA fs) ρ1 (fun as ρ2 => wP (toDs ρ2 as) fun p => wGo (gt p.2 i) fun ds => wP (k ds p.1) fun q => Q (.d q.2) (p.2.set i (some (.o (.lst q.1))))) E) E := by
  unfold mO
  rw [wE_b]
  unfold wE
  cases f ρ with
  | none => rfl
  | some w =>
    obtain ⟨r, ρ1⟩ := w
    cases r with
    | error x => rfl
    | ok a =>
      cases a with
      | d x => rfl
      | o x => rfl
      | s i =>
        dsimp only
        simp only [wOw_s]
        by_cases h : isOwnL (gt ρ1 i) = true
        · simp only [h, if_true, true_and]
          unfold bE
          cases eA fs ρ1 with
          | none => rfl
          | some w =>
            obtain ⟨r, ρ2⟩ := w
            cases r with
            | error x => rfl
            | ok as =>
              dsimp only
              cases toDs ρ2 as with
              | none => rfl
              | some w =>
                obtain ⟨xs, ρ3⟩ := w
                dsimp only
                simp only [wP_some]
                cases gt ρ3 i with
                | none => rfl
                | some s =>
                  cases s with
                  | d x => rfl
                  | o x =>
                    cases x with
                    | lst ds =>
                      simp only [wGo_l]
                      cases k ds xs with
                      | none => rfl
                      | some w => rfl
                    | _ => rfl
        · simp [h]
/-! what is walked -/
@[simp] theorem wE_seq {Q : List D → Env → Prop} : wE (itSeq f) ρ Q E ↔ wE f ρ (fun a ρ1 => wP (toD ρ1 (nrm a)) fun p => wP (seqOf p.1) fun ds => Q ds p.2) E := by
  unfold itSeq
  rw [wE_b]
  unfold wE
  cases f ρ with
  | none => rfl
  | some w =>
    obtain ⟨r, ρ1⟩ := w
    cases r with
    | error x => rfl
    | ok a =>
      dsimp only
      cases toD ρ1 (nrm a) with
      | none => rfl
      | some w =>
        obtain ⟨x, ρ2⟩ := w
        simp only [wP_some]
        cases seqOf x <;> rfl
@[simp] theorem wE_itD {k : D → Option (List D)} {Q : List D → Env → Prop} : wE (itD f k) ρ Q E ↔ wE f ρ (fun a ρ1 => wP (toD ρ1 (nrm a)) fun p => wP (k p.1) fun ds => Q ds p.2) E := by
  unfold itD
  rw [wE_b]
  unfold wE
  cases f ρ with
  | none => rfl
  | some w =>
    obtain ⟨r, ρ1⟩ := w
    cases r with
    | error x => rfl
    | ok a =>
      dsimp only
      cases toD ρ1 (nrm a) with
      | none => rfl
      | some w =>
        obtain ⟨x, ρ2⟩ := w
        simp only [wP_some]
        cases k x <;> rfl
@[simp] theorem wE_itN {fs : List DE} {k : List D → Option (List D)} {Q : List D → Env → Prop} : wE (itN fs k) ρ Q E ↔ wE (eA fs) ρ (fun as ρ1 => wP (pks ρ1 as) fun xs => wP (k xs) fun ds => Q ds ρ1) E := by
  unfold itN
  rw [wE_b]
  unfold wE
  cases eA fs ρ with
  | none => rfl
  | some w =>
    obtain ⟨r, ρ1⟩ := w
    cases r with
    | error x => rfl
    | ok as =>
      dsimp only
      cases pks ρ1 as with
      | none => rfl
      | some xs =>
        simp only [Option.bind_some, wP_some]
        cases k xs <;> rfl
end
/-! ### statements -/
section
variable {ρ : Env} {f : DE} {g g1 g2 : DS} {Q : Ctl → Env → Prop} {i : Nat} {x : D}
@[simp] theorem wS_skip : wS sSkip ρ Q ↔ Q .nx ρ := by unfold wS; rfl
@[simp] theorem wS_brk : wS sBrk ρ Q ↔ Q .bk ρ := by unfold wS; rfl
@[simp] theorem wS_cnt : wS sCnt ρ Q ↔ Q .ct ρ := by unfold wS; rfl
@[simp] theorem wS_retN : wS sRetN ρ Q ↔ Q (.rt (.d .non)) ρ := by unfold wS; rfl
def wNx (c : Ctl) (ρ : Env) (k : Env → Prop) (Q : Ctl → Env → Prop) : Prop := match c with
  | .nx => k ρ
  | c => Q c ρ
@[simp] theorem wNx_nx {k : Env → Prop} : wNx .nx ρ k Q ↔ k ρ := Iff.rfl
@[simp] theorem wNx_bk {k : Env → Prop} : wNx .bk ρ k Q ↔ Q .bk ρ := Iff.rfl
@[simp] theorem wNx_ct {k : Env → Prop} : wNx .ct ρ k Q ↔ Q .ct ρ := Iff.rfl
@[simp] theorem wNx_rt {r : R} {k : Env → Prop} : wNx (.rt r) ρ k Q ↔ Q (.rt r) ρ := Iff.rfl
@[simp] theorem wNx_ex {r : Exn} {k : Env → Prop} : wNx (.ex r) ρ k Q ↔ Q (.ex r) ρ := Iff.rfl
@[simp] theorem wS_q : wS (sSeq g1 g2) ρ Q ↔ wS g1 ρ fun c ρ1 => wNx c ρ1 (fun ρ1 => wS g2 ρ1 Q) Q := by
  unfold wS sSeq
  cases g1 ρ with
  | none => rfl
  | some w =>
    obtain ⟨c, ρ1⟩ := w
    cases c <;> rfl
@[simp] theorem wS_b {α : Type} {t : Dx α} {k : α → DS} : wS (bS t k) ρ Q ↔ wE t ρ (fun a ρ1 => wS (k a) ρ1 Q) fun x ρ1 => Q (.ex x) ρ1 := by
  unfold wS wE bS
  cases t ρ with
  | none => rfl
  | some w =>
    obtain ⟨r, ρ1⟩ := w
    cases r <;> rfl
@[simp] theorem wS_set : wS (sSet i f) ρ Q ↔ wE f ρ (fun a ρ1 => wS (setR i a) ρ1 Q) fun x ρ1 => Q (.ex x) ρ1 := wS_b
@[simp] theorem wS_setd : wS (setR i (.d x)) ρ Q ↔ i < ρ.length ∧ Q .nx (ρ.set i (some (.d x))) := by
  unfold wS setR
  by_cases h : i < ρ.length <;> simp [h]
@[simp] theorem wS_seto : wS (setR i (.o x)) ρ Q ↔ i < ρ.length ∧ Q .nx (ρ.set i (some (.o x))) := by
  unfold wS setR
  by_cases h : i < ρ.length <;> simp [h]
@[simp] theorem wS_sets {j : Nat} : wS (setR i (.s j)) ρ Q ↔ wP (frzS ρ j) fun p => i < p.2.length ∧ Q .nx (p.2.set i (some (.d p.1))) := by
  unfold wS setR
  dsimp only
  cases frzS ρ j with
  | none => rfl
  | some w =>
    obtain ⟨x, ρ1⟩ := w
    simp only [wP_some]
    by_cases h : i < ρ1.length <;> simp [h]
@[simp] theorem wS_ret : wS (sRet f) ρ Q ↔ wE f ρ (fun a ρ1 => wS (retR a) ρ1 Q) fun x ρ1 => Q (.ex x) ρ1 := wS_b
@[simp] theorem wS_retd : wS (retR (.d x)) ρ Q ↔ Q (.rt (.d x)) ρ := by unfold wS; rfl
@[simp] theorem wS_reto : wS (retR (.o x)) ρ Q ↔ Q (.rt (.o x)) ρ := by unfold wS; rfl
@[simp] theorem wS_rets {j : Nat} : wS (retR (.s j)) ρ Q ↔ wP (frzS ρ j) fun p => Q (.rt (.d p.1)) p.2 := by
  unfold wS retR
  dsimp only
  cases frzS ρ j with
  | none => rfl
  | some w => rfl
@[simp] theorem wS_exp : wS (sExp f) ρ Q ↔ wE f ρ (fun _ ρ1 => Q .nx ρ1) fun x ρ1 => Q (.ex x) ρ1 := by
  unfold sExp
  rw [wS_b]
  unfold wS
  rfl
@[simp] theorem wS_if {t : Dx Bool} : wS (sIf t g1 g2) ρ Q ↔ wE t ρ (fun b ρ1 => if b = true then wS g1 ρ1 Q else wS g2 ρ1 Q) fun x ρ1 => Q (.ex x) ρ1 := by
  unfold sIf
  rw [wS_b]
  have : (fun (b : Bool) ρ1 => wS (if b = true then g1 else g2) ρ1 Q) = fun b ρ1 => if b = true then wS g1 ρ1 Q else wS g2 ρ1 Q := by
    funext b ρ1
    cases b <;> rfl
  rw [this]
@[simp] theorem wS_asg {t : GT} : wS (sAsg f t) ρ Q ↔ wE f ρ (fun a ρ1 => wP (toD ρ1 (nrm a)) fun p => wP (t p.1 p.2) fun ρ2 => Q .nx ρ2) fun x ρ1 => Q (.ex x) ρ1 := by
  unfold sAsg
  rw [wS_b]
  unfold wE wS
  cases f ρ with
  | none => rfl
  | some w =>
    obtain ⟨r, ρ1⟩ := w
    cases r with
    | error x => rfl
    | ok a =>
      dsimp only
      cases toD ρ1 (nrm a) with
      | none => rfl
      | some w =>
        obtain ⟨x, ρ2⟩ := w
        simp only [wP_some]
        cases t x ρ2 <;> rfl
@[simp] theorem gNm_w {P : Env → Prop} : wP (gNm i x ρ) P ↔ i < ρ.length ∧ P (ρ.set i (some (.d x))) := by
  unfold gNm
  by_cases h : i < ρ.length <;> simp [h]
@[simp] theorem gTp_w {ts : List GT} {xs : List D} {P : Env → Prop} : wP (gTp ts (.tup xs) ρ) P ↔ xs.length = ts.length ∧ wP (gTs ts xs ρ) P := by
  show wP (if xs.length = ts.length then gTs ts xs ρ else none) P ↔ _
  by_cases h : xs.length = ts.length <;> simp [h]
@[simp] theorem gTs_nil {P : Env → Prop} : wP (gTs [] [] ρ) P ↔ P ρ := Iff.rfl
@[simp] theorem gTs_cons {t : GT} {ts : List GT} {xs : List D} {P : Env → Prop} : wP (gTs (t :: ts) (x :: xs) ρ) P ↔ wP (t x ρ) fun ρ1 => wP (gTs ts xs ρ1) P := by
  show wP ((t x ρ).bind (gTs ts xs)) P ↔ _
  cases t x ρ <;> rfl
@[simp] theorem wS_par {is : List Nat} {fs : List DE} : wS (sPar is fs) ρ Q ↔ wE (eL fs) ρ (fun as ρ1 => wP (frzL ρ1 as) fun p => wP (setL is p.1 p.2) fun ρ2 => Q .nx ρ2) fun x ρ1 => Q (.ex x) ρ1 := by
  unfold sPar
  rw [wS_b]
  unfold wE wS
  cases eL fs ρ with
  | none => rfl
  | some w =>
    obtain ⟨r, ρ1⟩ := w
    cases r with
    | error x => rfl
    | ok a =>
      dsimp only
      cases frzL ρ1 a with
      | none => rfl
      | some w =>
        obtain ⟨x, ρ2⟩ := w
        simp only [wP_some]
        cases setL is x ρ2 <;> rfl
@[simp] theorem frzL_nil {P : List R × Env → Prop} : wP (frzL ρ []) P ↔ P ([], ρ) := Iff.rfl
@[simp] theorem frzL_d {as : List R} {P : List R × Env → Prop} : wP (frzL ρ (.d x :: as)) P ↔ wP (frzL ρ as) fun p => P (.d x :: p.1, p.2) := by
  show wP ((frzL ρ as).map fun p => (R.d x :: p.1, p.2)) P ↔ _
  rw [wP_map]
@[simp] theorem frzL_o {as : List R} {P : List R × Env → Prop} : wP (frzL ρ (.o x :: as)) P ↔ wP (frzL ρ as) fun p => P (.o x :: p.1, p.2) := by
  show wP ((frzL ρ as).map fun p => (R.o x :: p.1, p.2)) P ↔ _
  rw [wP_map]
@[simp] theorem frzL_s {j : Nat} {as : List R} {P : List R × Env → Prop} : wP (frzL ρ (.s j :: as)) P ↔ wP (frzS ρ j) fun q => wP (frzL q.2 as) fun p => P (.d q.1 :: p.1, p.2) := by
  show wP (match frzS ρ j with
    | some (x, ρ1) => (frzL ρ1 as).map fun p => (R.d x :: p.1, p.2)
    | none => none) P ↔ _
  cases frzS ρ j with
  | none => rfl
  | some w =>
    obtain ⟨x, ρ1⟩ := w
    simp only [wP_some, wP_map]
@[simp] theorem setL_nil {P : Env → Prop} : wP (setL [] [] ρ) P ↔ P ρ := Iff.rfl
@[simp] theorem setL_d {is : List Nat} {as : List R} {P : Env → Prop} : wP (setL (i :: is) (.d x :: as) ρ) P ↔ i < ρ.length ∧ wP (setL is as (ρ.set i (some (.d x)))) P := by
  show wP (if i < ρ.length then setL is as (ρ.set i (some (.d x))) else none) P ↔ _
  by_cases h : i < ρ.length <;> simp [h]
@[simp] theorem setL_o {is : List Nat} {as : List R} {P : Env → Prop} : wP (setL (i :: is) (.o x :: as) ρ) P ↔ i < ρ.length ∧ wP (setL is as (ρ.set i (some (.o x)))) P := by
  show wP (if i < ρ.length then setL is as (ρ.set i (some (.o x))) else none) P ↔ _
  by_cases h : i < ρ.length <;> simp [h]
@[simp] theorem wS_stI {fv fo fi : DE} : wS (sStI fv fo fi) ρ Q ↔ wE fv ρ (fun a ρ1 => wE fo ρ1 (fun o ρ2 => wE fi ρ2 (fun j ρ3 => wP (toD ρ3 (nrm a)) fun p => wP (pk p.2 (nrm j)) fun k => wI (.d k) fun k => wOw o fun s => wGo (gt p.2 s) fun ds => wP (ixN ds.length k) fun m => Q .nx (p.2.set s (some (.o (.lst (ds.set m p.1)))))) fun x ρ1 => Q (.ex x) ρ1) fun x ρ1 => Q (.ex x) ρ1) fun x ρ1 => Q (.ex x) ρ1 := by
  unfold sStI
  rw [wS_b]
  unfold wE wS
  cases fv ρ with
  | none => rfl
  | some w =>
    obtain ⟨r, ρ1⟩ := w
    cases r with
    | error x => rfl
    | ok a =>
      dsimp only
      unfold bS
      cases fo ρ1 with
      | none => rfl
      | some w =>
        obtain ⟨r, ρ2⟩ := w
        cases r with
        | error x => rfl
        | ok o =>
          dsimp only
          cases fi ρ2 with
          | none => rfl
          | some w =>
            obtain ⟨r, ρ3⟩ := w
            cases r with
            | error x => rfl
            | ok j =>
              dsimp only
              cases toD ρ3 (nrm a) with
              | none => rfl
              | some w =>
                obtain ⟨x, ρ2⟩ := w
                simp only [wP_some]
                cases pk ρ2 (nrm j) with
                | none => rfl
                | some k =>
                  simp only [wP_some]
                  unfold stIx
                  cases o with
                  | d _ => cases k <;> rfl
                  | o _ => cases k <;> rfl
                  | s i =>
                    cases k with
                    | int k =>
                      simp only [wI_int, wOw_s]
                      cases gt ρ2 i with
                      | none => rfl
                      | some s =>
                        cases s with
                        | d _ => rfl
                        | o y =>
                          cases y with
                          | lst ds =>
                            simp only [wGo_l]
                            cases ixN ds.length k <;> rfl
                          | _ => rfl
                    | _ => rfl
/-! loops -/
def wLp (c : Ctl) (ρ : Env) (k : Env → Prop) (Q : Ctl → Env → Prop) : Prop := match c with
  | .nx => k ρ
  | .ct => k ρ
  | .bk => Q .nx ρ
  | c => Q c ρ
@[simp] theorem wLp_nx {k : Env → Prop} : wLp .nx ρ k Q ↔ k ρ := Iff.rfl
@[simp] theorem wLp_ct {k : Env → Prop} : wLp .ct ρ k Q ↔ k ρ := Iff.rfl
@[simp] theorem wLp_bk {k : Env → Prop} : wLp .bk ρ k Q ↔ Q .nx ρ := Iff.rfl
@[simp] theorem wLp_rt {r : R} {k : Env → Prop} : wLp (.rt r) ρ k Q ↔ Q (.rt r) ρ := Iff.rfl
@[simp] theorem wLp_ex {r : Exn} {k : Env → Prop} : wLp (.ex r) ρ k Q ↔ Q (.ex r) ρ := Iff.rfl
@[simp] theorem wS_for {it : Dx (List D)} {t : GT} : wS (sFor it t g) ρ Q ↔ wE it ρ (fun xs ρ1 => wS (forL t g xs) ρ1 Q) fun x ρ1 => Q (.ex x) ρ1 := wS_b
theorem wS_f0 {t : GT} : wS (forL t g []) ρ Q ↔ Q .nx ρ := by unfold wS; rfl
theorem wS_f {t : GT} {xs : List D} : wS (forL t g (x :: xs)) ρ Q ↔ wP (t x ρ) fun ρ1 => wS g ρ1 fun c ρ2 => wLp c ρ2 (fun ρ2 => wS (forL t g xs) ρ2 Q) Q := by
  unfold wS
  rw [forL]
  cases t x ρ with
  | none => rfl
  | some ρ1 =>
    dsimp only
    simp only [wP_some]
    cases g ρ1 with
    | none => rfl
    | some w =>
      obtain ⟨c, ρ2⟩ := w
      cases c <;> rfl
theorem wS_w {t : Dx Bool} {n : Nat} : wS (whN t g (n + 1)) ρ Q ↔ wE t ρ (fun b ρ1 => if b = true then wS g ρ1 (fun c ρ2 => wLp c ρ2 (fun ρ2 => wS (whN t g n) ρ2 Q) Q) else Q .nx ρ1) fun x ρ1 => Q (.ex x) ρ1 := by
  unfold wS wE
  rw [whN]
  cases t ρ with
  | none => rfl
  | some w =>
    obtain ⟨r, ρ1⟩ := w
    cases r with
    | error x => rfl
    | ok b =>
      cases b with
      | false => rfl
      | true =>
        dsimp only
        simp only [if_true]
        cases g ρ1 with
        | none => rfl
        | some w =>
          obtain ⟨c, ρ2⟩ := w
          cases c <;> rfl
/-- for, by an invariant over the items that are left -/
theorem wS.forI {t : GT} (I : List D → Env → Prop) {xs : List D} (h0 : I xs ρ) (hd : ∀ ρ, I [] ρ → Q .nx ρ)
    (hs : ∀ x r ρ, I (x :: r) ρ → wP (t x ρ) fun ρ1 => wS g ρ1 fun c ρ2 => wLp c ρ2 (fun ρ2 => I r ρ2) Q) : wS (forL t g xs) ρ Q := by
  induction xs generalizing ρ with
  | nil => exact wS_f0.mpr (hd ρ h0)
  | cons x r ih =>
    rw [wS_f]
    have h := hs x r ρ h0
    rw [wP_ex] at h ⊢
    obtain ⟨ρ1, e, h⟩ := h
    refine ⟨ρ1, e, h.mono fun c ρ2 q => ?_⟩
    cases c with
    | nx => exact ih q
    | ct => exact ih q
    | _ => exact q
/-- while, by an invariant with a measure -/
theorem wS.whlI {t : Dx Bool} (I : Nat → Env → Prop) {m n : Nat} (h0 : I m ρ) (hn : m < n)
    (hs : ∀ m ρ, I m ρ → wE t ρ (fun b ρ1 => if b = true then wS g ρ1 (fun c ρ2 => wLp c ρ2 (fun ρ2 => ∃ m', m' < m ∧ I m' ρ2) Q) else Q .nx ρ1) fun x ρ1 => Q (.ex x) ρ1) : wS (whN t g n) ρ Q := by
  induction n generalizing m ρ with
  | zero => omega
  | succ n ih =>
    rw [wS_w]
    refine (hs m ρ h0).mono (fun b ρ1 q => ?_) fun _ _ e => e
    cases b with
    | false => exact q
    | true =>
      simp only [if_true] at q ⊢
      refine q.mono fun c ρ2 q => ?_
      cases c with
      | nx =>
        obtain ⟨m', h1, h2⟩ := q
        exact ih h2 (by omega)
      | ct =>
        obtain ⟨m', h1, h2⟩ := q
        exact ih h2 (by omega)
      | _ => exact q
end
/-! ### comprehensions -/
section
variable {ρ : Env} {vs : List Nat} {t : GT} {tt : Dx Bool} {e : DE} {E : Exn → Env → Prop}
@[simp] theorem wE_lc {it : Dx (List D)} {Q : R → Env → Prop} : wE (xLc it vs t tt e) ρ Q E ↔ wE it ρ (fun xs ρ1 => wE (compL vs t tt e xs []) ρ1 (fun acc ρ2 => Q (.o (.lst acc)) ρ2) E) E := by
  unfold xLc
  simp only [wE_b, wE_r]
theorem wE_l0 {acc : List D} {Q : List D → Env → Prop} : wE (compL vs t tt e [] acc) ρ Q E ↔ Q acc ρ := by unfold wE; rfl
theorem wE.compI (I : List D → List D → Env → Prop) {xs acc : List D} {Q : List D → Env → Prop} (h0 : I xs acc ρ) (hd : ∀ acc ρ, I [] acc ρ → Q acc ρ)
    (hs : ∀ x r acc ρ, I (x :: r) acc ρ → wP (t x (wipeE ρ vs)) fun ρ1 => wE tt ρ1 (fun b ρ2 => if b = true then wE e ρ2 (fun a ρ3 => wP (toD ρ3 (nrm a)) fun p => acc.length < sizeLine ∧ I r (acc ++ [p.1]) (wipeE p.2 vs)) (fun _ _ => False) else I r acc (wipeE ρ2 vs)) fun _ _ => False) : wE (compL vs t tt e xs acc) ρ Q E := by
  induction xs generalizing ρ acc with
  | nil => exact wE_l0.mpr (hd acc ρ h0)
  | cons x r ih =>
    have h := hs x r acc ρ h0
    unfold wE
    rw [compL]
    unfold wE at h
    cases z : t x (wipeE ρ vs) with
    | none => rw [z] at h; exact h.elim
    | some ρ1 =>
      rw [z] at h
      simp only [wP_some] at h
      dsimp only
      cases y : tt ρ1 with
      | none => rw [y] at h; exact h.elim
      | some w =>
        obtain ⟨rb, ρ2⟩ := w
        rw [y] at h
        cases rb with
        | error x => exact h.elim
        | ok b =>
          cases b with
          | false =>
            have h := ih h
            unfold wE at h
            exact h
          | true =>
            dsimp only at h ⊢
            simp only [if_true] at h
            cases u : e ρ2 with
            | none => rw [u] at h; exact h.elim
            | some w =>
              obtain ⟨ra, ρ3⟩ := w
              rw [u] at h
              cases ra with
              | error x => exact h.elim
              | ok a =>
                dsimp only at h ⊢
                cases v : toD ρ3 (nrm a) with
                | none => rw [v] at h; exact h.elim
                | some w =>
                  obtain ⟨y, ρ4⟩ := w
                  rw [v] at h
                  dsimp only at h ⊢
                  have h2 : acc.length < sizeLine ∧ I r (acc ++ [y]) (wipeE ρ4 vs) := h
                  rw [if_pos h2.1]
                  have h3 := ih h2.2
                  unfold wE at h3
                  exact h3
end
/-! ### a def -/
def wR (pm : List Bool) (ss : List S) (c : Ctl) (ρ : Env) (Q : R → List S → Prop) (E : Exn → List S → Prop) : Prop := match c with
  | .nx => wP (outs pm ss ρ) fun o => Q (.d .non) o
  | .rt (.d x) => wP (outs pm ss ρ) fun o => Q (.d x) o
  | .rt (.o x) => wP (outs pm ss ρ) fun o => Q (.o x) o
  | .ex x => wP (outs pm ss ρ) fun o => E x o
  | _ => False
section
variable {pm : List Bool} {ss : List S} {ρ : Env} {x : D} {Q : R → List S → Prop} {E : Exn → List S → Prop}
@[simp] theorem wR_nx : wR pm ss .nx ρ Q E ↔ wP (outs pm ss ρ) fun o => Q (.d .non) o := Iff.rfl
@[simp] theorem wR_rd : wR pm ss (.rt (.d x)) ρ Q E ↔ wP (outs pm ss ρ) fun o => Q (.d x) o := Iff.rfl
@[simp] theorem wR_ro : wR pm ss (.rt (.o x)) ρ Q E ↔ wP (outs pm ss ρ) fun o => Q (.o x) o := Iff.rfl
@[simp] theorem wR_ex {y : Exn} : wR pm ss (.ex y) ρ Q E ↔ wP (outs pm ss ρ) fun o => E y o := Iff.rfl
theorem wF_fn {N : Nat} {g : DS} : wF (fnF pm N g) ss Q E ↔ okP pm ss = true ∧ wS g (sl ss ++ List.replicate (N - pm.length) none) fun c ρ => wR pm ss c ρ Q E := by
  unfold wF fnF wS
  by_cases h : okP pm ss = true
  · simp only [h, if_true, true_and]
    cases g (sl ss ++ List.replicate (N - pm.length) none) with
    | none => rfl
    | some w =>
      obtain ⟨c, ρ⟩ := w
      cases c with
      | nx => dsimp only [wR]; cases outs pm ss ρ <;> rfl
      | bk => rfl
      | ct => rfl
      | ex x => dsimp only [wR]; cases outs pm ss ρ <;> rfl
      | rt r =>
        cases r with
        | d x => dsimp only [wR]; cases outs pm ss ρ <;> rfl
        | o x => dsimp only [wR]; cases outs pm ss ρ <;> rfl
        | s i => rfl
  · simp [h]
@[simp] theorem sl_nil : sl [] = [] := rfl
@[simp] theorem sl_cons {s : S} {ss : List S} : sl (s :: ss) = some s :: sl ss := rfl
@[simp] theorem outs_nil : outs [] ss ρ = some [] := rfl
@[simp] theorem outs_t {s o : S} {bs : List Bool} {P : List S → Prop} : wP (outs (true :: bs) (s :: ss) (some o :: ρ)) P ↔ wP (outs bs ss ρ) fun r => P (o :: r) := by
  show wP (match (if true = true then some o else some s), outs bs ss ρ with
    | some s', some r => some (s' :: r)
    | _, _ => none) P ↔ _
  cases outs bs ss ρ <;> rfl
@[simp] theorem outs_f {s : S} {o : Option S} {bs : List Bool} {P : List S → Prop} : wP (outs (false :: bs) (s :: ss) (o :: ρ)) P ↔ wP (outs bs ss ρ) fun r => P (s :: r) := by
  show wP (match (if false = true then o else some s), outs bs ss ρ with
    | some s', some r => some (s' :: r)
    | _, _ => none) P ↔ _
  cases outs bs ss ρ <;> rfl
end
@[simp] theorem okP_nil : okP [] [] = true := rfl
@[simp] theorem okP_t {s : S} {bs : List Bool} {ss : List S} : okP (true :: bs) (s :: ss) = okP bs ss := rfl
@[simp] theorem okP_f {x : D} {bs : List Bool} {ss : List S} : okP (false :: bs) (.d x :: ss) = okP bs ss := rfl
@[simp] theorem noS_d {x : D} : noS (.ok (.d x)) = true := rfl
@[simp] theorem noS_o {x : D} : noS (.ok (.o x)) = true := rfl
end Dn
end

section
set_option Elab.async false
set_option linter.all false
set_option maxRecDepth 100000
set_option maxHeartbeats 4000000
/-! Dn: operations on data, as conditions. -/
namespace Dn
open PySem PySem.Spec L2
section
variable {P : R → Prop} {i j : Int} {a b z : Str} {xs ys : List D} {x y : D}
@[simp] theorem k_ix_l : wP (kIx (.lst xs) (.int i)) P ↔ wP (atI xs i) fun x => P (.d x) := wP_map
@[simp] theorem k_ix_t : wP (kIx (.tup xs) (.int i)) P ↔ wP (atI xs i) fun x => P (.d x) := wP_map
@[simp] theorem k_ix_s {ns : List Int} : wP (kIx (.src ns) (.int i)) P ↔ wP (atI ns i) fun x => P (.d (.int x)) := wP_map
theorem wP_ite {α : Type} {c : Prop} [Decidable c] {x : α} {P : α → Prop} : wP (if c then some x else none) P ↔ c ∧ P x := by
  by_cases h : c <;> simp [h]
@[simp] theorem k_add_i : wP (kAdd (.int i) (.int j)) P ↔ P (.d (.int (i + j))) := Iff.rfl
@[simp] theorem k_add_s : wP (kAdd (.str a) (.str b)) P ↔ a.length + b.length ≤ sizeLine ∧ P (.d (.str (a ++ b))) := wP_ite
@[simp] theorem k_add_l : wP (kAdd (.lst xs) (.lst ys)) P ↔ xs.length + ys.length ≤ sizeLine ∧ P (.o (.lst (xs ++ ys))) := wP_ite
@[simp] theorem k_add_t : wP (kAdd (.tup xs) (.tup ys)) P ↔ xs.length + ys.length ≤ sizeLine ∧ P (.d (.tup (xs ++ ys))) := wP_ite
@[simp] theorem k_sub : wP (kSub (.int i) (.int j)) P ↔ P (.d (.int (i - j))) := Iff.rfl
@[simp] theorem k_mul_i : wP (kMul (.int i) (.int j)) P ↔ (smallI i || smallI j) = true ∧ P (.d (.int (i * j))) := wP_ite
@[simp] theorem k_mul_s : wP (kMul (.str z) (.int i)) P ↔ (-9223372036854775808 ≤ i ∧ i < 9223372036854775808 ∧ z.length * i.toNat ≤ sizeLine ∧ z.length ≤ sizeLine) ∧ P (.d (.str (repS z i.toNat))) := wP_ite
@[simp] theorem k_mul_t : wP (kMul (.tup xs) (.int i)) P ↔ (-9223372036854775808 ≤ i ∧ i ≤ 1000 ∧ xs.length ≤ 1000) ∧ P (.d (.tup (List.replicate i.toNat xs).flatten)) := wP_ite
@[simp] theorem k_mul_l : wP (kMul (.lst xs) (.int i)) P ↔ (-9223372036854775808 ≤ i ∧ i < 9223372036854775808 ∧ xs.length * i.toNat ≤ sizeLine) ∧ P (.o (.lst (List.replicate i.toNat xs).flatten)) := wP_ite
@[simp] theorem k_mod : wP (kMod (.int i) (.int j)) P ↔ 0 < j ∧ P (.d (.int (i % j))) := wP_ite
@[simp] theorem k_div : wP (kDiv (.int i) (.int j)) P ↔ (0 < j ∧ j < 1073741824) ∧ P (.d (.int (i / j))) := wP_ite
@[simp] theorem k_pow : wP (kPow (.int i) (.int j)) P ↔ (0 ≤ j ∧ j ≤ 1000000 ∧ i.natAbs < 18446744073709551616) ∧ P (.d (.int (i ^ j.toNat))) := wP_ite
@[simp] theorem k_neg : wP (kNeg (.int i)) P ↔ P (.d (.int (-i))) := Iff.rfl
@[simp] theorem k_cmp {p : Int → Int → Bool} : wP (kCmp p (.int i) (.int j)) P ↔ P (.d (.bl (p i j))) := Iff.rfl
@[simp] theorem k_eq : wP (kEq x y) P ↔ wP (eqS x y) fun b => P (.d (.bl b)) := wP_map
@[simp] theorem k_ne : wP (kNe x y) P ↔ wP (eqS x y) fun b => P (.d (.bl !b)) := wP_map
@[simp] theorem eqS_s : eqS (.str a) (.str b) = some (decide (a = b)) := rfl
@[simp] theorem eqS_i : eqS (.int i) (.int j) = some (decide (i = j)) := rfl
@[simp] theorem eqS_l {P : Bool → Prop} : wP (eqS (.lst xs) y) P ↔ (isPy (.lst xs) = true ∧ isPy y = true ∧ SeqAt.shaped (toPy (.lst xs)) = true ∧ SeqAt.shaped (toPy y) = true) ∧ P (PyData.eqv (toPy (.lst xs)) (toPy y)) := by
  show wP (eqD (.lst xs) y) P ↔ _
  exact wP_ite
@[simp] theorem eqS_t {P : Bool → Prop} : wP (eqS (.tup xs) y) P ↔ (isPy (.tup xs) = true ∧ isPy y = true ∧ SeqAt.shaped (toPy (.tup xs)) = true ∧ SeqAt.shaped (toPy y) = true) ∧ P (PyData.eqv (toPy (.tup xs)) (toPy y)) := by
  show wP (eqD (.tup xs) y) P ↔ _
  exact wP_ite
@[simp] theorem k_is {b : Bool} : wP (kIs b x .non) P ↔ P (.d (.bl (if b = true then isNon x else !isNon x))) := by cases x <;> exact Iff.rfl
@[simp] theorem isNon_n : isNon .non = true := rfl
@[simp] theorem isNon_t : isNon (.tup xs) = false := rfl
@[simp] theorem isNon_l : isNon (.lst xs) = false := rfl
@[simp] theorem isNon_i : isNon (.int i) = false := rfl
@[simp] theorem isNon_s : isNon (.str z) = false := rfl
@[simp] theorem k_in : wP (kIn x y) P ↔ wP (inD x y) fun b => P (.d (.bl b)) := wP_map
@[simp] theorem k_ni : wP (kNi x y) P ↔ wP (inD x y) fun b => P (.d (.bl !b)) := wP_map
theorem eqv_str {a b : Str} : PyData.eqv (.str a) (.str b) = decide (a = b) := by
  rw [Bool.eq_iff_iff]
  simp [PyData.eqv]
/-- a text among texts -/
theorem inD_strs {zs : List Str} : inD (.str a) (.tup (zs.map .str)) = some (zs.any fun z => decide (z = a)) := by
  have h : (zs.map D.str).all flatD = true := by
    induction zs with
    | nil => rfl
    | cons z r ih => exact ih
  show (if flatD (D.str a) = true ∧ (zs.map D.str).all flatD = true then some ((zs.map D.str).any fun y => PyData.eqv (toPy y) (toPy (D.str a))) else none) = _
  rw [if_pos ⟨rfl, h⟩, List.any_map]
  congr 1
@[simp] theorem in_s1 {z1 : Str} : inD (.str a) (.tup [.str z1]) = some (decide (z1 = a)) := by
  have := inD_strs (a := a) (zs := [z1])
  simpa using this
@[simp] theorem in_s2 {z1 z2 : Str} : inD (.str a) (.tup [.str z1, .str z2]) = some (decide (z1 = a) || decide (z2 = a)) := by
  have := inD_strs (a := a) (zs := [z1, z2])
  simpa using this
@[simp] theorem in_s3 {z1 z2 z3 : Str} : inD (.str a) (.tup [.str z1, .str z2, .str z3]) = some (decide (z1 = a) || (decide (z2 = a) || decide (z3 = a))) := by
  have := inD_strs (a := a) (zs := [z1, z2, z3])
  simpa using this
@[simp] theorem k_tru_b {b : Bool} : kTru (.bl b) = some b := rfl
@[simp] theorem k_tru_i : kTru (.int i) = some (i != 0) := rfl
@[simp] theorem k_tru_l : kTru (.lst xs) = some (!xs.isEmpty) := rfl
@[simp] theorem k_tru_t : kTru (.tup xs) = some (!xs.isEmpty) := rfl
@[simp] theorem k_tru_n : kTru .non = some false := rfl
@[simp] theorem k_len_l : wP (kLen [.lst xs]) P ↔ P (.d (.int (xs.length : Nat))) := Iff.rfl
@[simp] theorem k_len_t : wP (kLen [.tup xs]) P ↔ P (.d (.int (xs.length : Nat))) := Iff.rfl
@[simp] theorem k_len_r {ns : List Int} : wP (kLen [.src ns]) P ↔ P (.d (.int (ns.length : Nat))) := Iff.rfl
@[simp] theorem k_len_s : wP (kLen [.str z]) P ↔ z.length ≤ sizeLine ∧ P (.d (.int (z.length : Nat))) := wP_ite
@[simp] theorem k_abs : wP (kAbs [.int i]) P ↔ P (.d (.int (if i < 0 then -i else i))) := Iff.rfl
@[simp] theorem k_max : wP (kMax2 [.int i, .int j]) P ↔ P (.d (.int (if j > i then j else i))) := Iff.rfl
@[simp] theorem k_min : wP (kMin2 [.int i, .int j]) P ↔ P (.d (.int (if j < i then j else i))) := Iff.rfl
@[simp] theorem k_int_i : wP (kInt [.int i]) P ↔ P (.d (.int i)) := Iff.rfl
@[simp] theorem k_int_b {b : Bool} : wP (kInt [.bl b]) P ↔ P (.d (.int (if b then 1 else 0))) := Iff.rfl
@[simp] theorem k_bool_i : wP (kBool [.int i]) P ↔ P (.d (.bl (i != 0))) := Iff.rfl
@[simp] theorem k_list_l : wP (kList [.lst xs]) P ↔ P (.o (.lst xs)) := Iff.rfl
@[simp] theorem k_list_t : wP (kList [.tup xs]) P ↔ P (.o (.lst xs)) := Iff.rfl
@[simp] theorem k_tuple_l : wP (kTuple [.lst xs]) P ↔ P (.d (.tup xs)) := Iff.rfl
@[simp] theorem k_tuple_t : wP (kTuple [.tup xs]) P ↔ P (.d (.tup xs)) := Iff.rfl
@[simp] theorem k_sum : wP (kSum [.lst xs]) P ↔ wP (intsOf xs) fun ns => P (.d (.int ns.sum)) := wP_map
@[simp] theorem k_sl_l {lo hi : Option Int} : wP (kSl (.lst xs) lo hi) P ↔ P (.o (.lst (cut xs lo hi))) := Iff.rfl
@[simp] theorem k_sl_t {lo hi : Option Int} : wP (kSl (.tup xs) lo hi) P ↔ P (.d (.tup (cut xs lo hi))) := Iff.rfl
@[simp] theorem k_sl_s {lo hi : Option Int} : wP (kSl (.str z) lo hi) P ↔ z.length ≤ sizeLine ∧ P (.d (.str (cutS z lo hi))) := wP_ite
@[simp] theorem k_rev_l : wP (kRev (.lst xs)) P ↔ P (.o (.lst xs.reverse)) := Iff.rfl
@[simp] theorem sq_l : seqOf (.lst xs) = some xs := rfl
@[simp] theorem sq_t : seqOf (.tup xs) = some xs := rfl
@[simp] theorem k_rng {P : List D → Prop} : wP (kRng1 [.int j]) P ↔ (-4611686018427387904 ≤ j ∧ j < 4611686018427387904) ∧ P (rng 0 j.toNat) := wP_ite
@[simp] theorem k_rng2 {P : List D → Prop} : wP (kRng2 [.int i, .int j]) P ↔ (-4611686018427387904 ≤ i ∧ i < 4611686018427387904 ∧ -4611686018427387904 ≤ j ∧ j < 4611686018427387904) ∧ P (rng i (j - i).toNat) := wP_ite
@[simp] theorem k_en_l {P : List D → Prop} : wP (kEnumA (.lst xs)) P ↔ P (pairs (rng 0 xs.length) xs) := Iff.rfl
@[simp] theorem k_en_t {P : List D → Prop} : wP (kEnumA (.tup xs)) P ↔ P (pairs (rng 0 xs.length) xs) := Iff.rfl
section
variable {P : List D × D → Prop}
@[simp] theorem o_app : wP (oAppend xs [x]) P ↔ xs.length < sizeLine ∧ P (xs ++ [x], .non) := wP_ite
@[simp] theorem o_ext : wP (oExtend xs [.lst ys]) P ↔ xs.length + ys.length ≤ sizeLine ∧ P (xs ++ ys, .non) := wP_ite
@[simp] theorem o_pop : wP (oPop xs []) P ↔ wP (xs[xs.length - 1]?) fun x => P (xs.dropLast, x) := wP_map
theorem o_popI {k : Nat} (h : i = (k : Int)) (hk : k < xs.length) (hz : k < 9223372036854775808) : wP (oPop xs [.int i]) P ↔ P (xs.eraseIdx k, xs[k]) := by
  subst h
  have e : seqIndex? (k : Int) xs.length = some k := by
    have h0 : ¬ (k : Int) < 0 := by omega
    unfold seqIndex?
    simp [hk, h0]
  show wP (if -9223372036854775808 ≤ (k : Int) ∧ (k : Int) < 9223372036854775808 then (match seqIndex? (k : Int) xs.length with
    | some j => (xs[j]?).map fun x => (xs.eraseIdx j, x)
    | none => none) else none) P ↔ _
  rw [if_pos (by omega), e]
  show wP ((xs[k]?).map fun x => (xs.eraseIdx k, x)) P ↔ _
  rw [List.getElem?_eq_getElem hk]
  rfl
end
@[simp] theorem m_join_l : wP (kJoin (.str a) [.lst xs]) P ↔ wP (strsOf xs) fun ys => (ys.map (·.length)).sum + ys.length * a.length ≤ 16777216 ∧ P (.d (.str (Txt.join a ys))) := by
  show wP (match strsOf xs with
    | some ys => if (ys.map (·.length)).sum + ys.length * a.length ≤ 16777216 then some (.d (.str (Txt.join a ys))) else none
    | none => none) P ↔ _
  cases strsOf xs with
  | none => rfl
  | some ys => exact wP_ite
@[simp] theorem m_split : wP (kSplit (.str a) [.str b]) P ↔ ((b.length == 0) = false ∧ a.length + 2 ≤ sizeLine) ∧ P (.o (.lst ((Txt.split a b).map .str))) := wP_ite
@[simp] theorem ty_s : tyD "str" (some (.str a)) = true := rfl
end
theorem atI_nn {α : Type} {xs : List α} {k : Nat} : atI xs (k : Int) = xs[k]? := by
  unfold atI ixN
  by_cases h : k < xs.length
  · simp [h]
  · have : xs[k]? = none := List.getElem?_eq_none (by omega)
    simp [h, this]
@[simp] theorem at_0 {α : Type} {x : α} {xs : List α} : atI (x :: xs) 0 = some x := by
  have := atI_nn (xs := x :: xs) (k := 0)
  simpa using this
@[simp] theorem at_1 {α : Type} {x y : α} {xs : List α} : atI (x :: y :: xs) 1 = some y := by
  have := atI_nn (xs := x :: y :: xs) (k := 1)
  simpa using this
@[simp] theorem at_2 {α : Type} {x y z : α} {xs : List α} : atI (x :: y :: z :: xs) 2 = some z := by
  have := atI_nn (xs := x :: y :: z :: xs) (k := 2)
  simpa using this
@[simp] theorem at_3 {α : Type} {x y z u : α} {xs : List α} : atI (x :: y :: z :: u :: xs) 3 = some u := by
  have := atI_nn (xs := x :: y :: z :: u :: xs) (k := 3)
  simpa using this
theorem atI_neg1 {α : Type} {xs : List α} (h : xs ≠ []) : atI xs (-1) = some (xs.getLast h) := by
  have hl : 0 < xs.length := List.length_pos_iff.mpr h
  unfold atI ixN
  rw [if_neg (by decide), if_pos (by omega)]
  simp only [Option.bind_some]
  have : ((-1 : Int) + (xs.length : Int)).toNat = xs.length - 1 := by omega
  rw [this, List.getLast_eq_getElem, List.getElem?_eq_getElem]
@[simp] theorem k_ix_z {P : R → Prop} {z : Str} {i : Int} : wP (kIx (.str z) (.int i)) P ↔ z.length ≤ sizeLine ∧ wP (atI z.cps.toList i) fun c => P (.d (.str ⟨#[c]⟩)) := by
  show wP (if z.length ≤ sizeLine then (atI z.cps.toList i).map fun c => R.d (.str ⟨#[c]⟩) else none) P ↔ _
  by_cases h : z.length ≤ sizeLine
  · simp [h, wP_map]
  · simp [h]
@[simp] theorem wipe_0 {ρ : Env} : wipeE ρ [] = ρ := rfl
@[simp] theorem wipe_1 {ρ : Env} {v : Nat} {vs : List Nat} : wipeE ρ (v :: vs) = (wipeE ρ vs).set v none := rfl
theorem at_ex {α : Type} {xs : List α} {i : Int} (h0 : 0 ≤ i) (h1 : i < xs.length) : ∃ x ∈ xs, atI xs i = some x := by
  obtain ⟨k, rfl⟩ := Int.eq_ofNat_of_zero_le h0
  have hk : k < xs.length := by omega
  exact ⟨xs[k], List.getElem_mem hk, by rw [atI_nn, List.getElem?_eq_getElem hk]⟩
/-! ### texts: code points, length -/
/-- a text of at most n signs, of code points -/
def Nm (n : Nat) (z : Str) : Prop := PyData.strOk z = true ∧ z.length ≤ n
theorem Nm.mono {m n : Nat} {z : Str} (h : Nm m z) (hk : m ≤ n) : Nm n z := ⟨h.1, Nat.le_trans h.2 hk⟩
theorem strOk_iff {z : Str} : PyData.strOk z = true ↔ ∀ c ∈ z.cps.toList, c < 0x110000 := by
  unfold PyData.strOk
  rw [← Array.all_toList, List.all_eq_true]
  simp
theorem Nm.app {m n : Nat} {a b : Str} (h1 : Nm m a) (h2 : Nm n b) : Nm (m + n) (a ++ b) := by
  refine ⟨strOk_iff.mpr fun c hc => ?_, ?_⟩
  · have : (a ++ b).cps.toList = a.cps.toList ++ b.cps.toList := TL.tl_append a b
    rw [this, List.mem_append] at hc
    exact hc.elim (strOk_iff.mp h1.1 c) (strOk_iff.mp h2.1 c)
  · have : (a ++ b).length = a.length + b.length := by
      rw [TL.len_tl, TL.tl_append, List.length_append, ← TL.len_tl, ← TL.len_tl]
    rw [this]
    exact Nat.add_le_add h1.2 h2.2
theorem Nm.cut {n : Nat} {a : Str} (h : Nm n a) {lo hi : Option Int} : Nm n (cutS a lo hi) :=
  ⟨strOk_iff.mpr fun c hc => strOk_iff.mp h.1 c (by
    have : c ∈ (a.cps.toList.drop (HT.sIx a.length 0 lo)).take (HT.sIx a.length a.length hi - HT.sIx a.length 0 lo) := by
      unfold cutS at hc
      simpa using hc
    exact List.mem_of_mem_drop (List.mem_of_mem_take this)), Nat.le_trans (cutS_length a lo hi) h.2⟩
theorem Nm.chr {n : Nat} {a : Str} (h : Nm n a) {c : Nat} (hc : c ∈ a.cps.toList) : Nm 1 ⟨#[c]⟩ :=
  ⟨strOk_iff.mpr fun d hd => by
    have : d = c := by simpa using hd
    rw [this]
    exact strOk_iff.mp h.1 c hc, Nat.le_refl _⟩
theorem repS_succ (z : Str) (k : Nat) : ∀ acc : Array Nat, ((List.replicate k z.cps).foldl (· ++ ·) acc).toList = acc.toList ++ (List.replicate k z.cps.toList).flatten := by
  induction k with
  | zero => intro acc; simp
  | succ k ih =>
    intro acc
    rw [List.replicate_succ, List.foldl_cons, ih, List.replicate_succ, List.flatten_cons, Array.toList_append, List.append_assoc]
theorem Nm.rep {n : Nat} {a : Str} (h : Nm n a) (k : Nat) : Nm (n * k) (repS a k) := by
  refine ⟨strOk_iff.mpr fun c hc => ?_, ?_⟩
  · have e : (repS a k).cps.toList = (List.replicate k a.cps.toList).flatten := by
      unfold repS
      rw [repS_succ]
      simp
    rw [e, List.mem_flatten] at hc
    obtain ⟨l, hl, hc⟩ := hc
    rw [List.eq_of_mem_replicate hl] at hc
    exact strOk_iff.mp h.1 c hc
  · rw [repS_length]
    exact Nat.mul_le_mul_right _ h.2
theorem joinL_nil : ∀ ps : List (List Nat), TL.joinL [] ps = ps.flatten
  | [] => rfl
  | [p] => by simp [TL.joinL]
  | p :: q :: r => by
    show p ++ ([] ++ TL.joinL [] (q :: r)) = _
    rw [joinL_nil (q :: r), List.flatten_cons]
    simp
theorem tl_join0 {ys : List Str} : TL.tl (Txt.join "" ys) = (ys.map TL.tl).flatten := by
  rw [TL.join_eq, TL.tl_join]
  exact joinL_nil _
theorem Nm.join {n : Nat} {ys : List Str} (h : ∀ y ∈ ys, Nm n y) : Nm (n * ys.length) (Txt.join "" ys) := by
  refine ⟨strOk_iff.mpr fun c hc => ?_, ?_⟩
  · have hc : c ∈ TL.tl (Txt.join "" ys) := hc
    rw [tl_join0, List.mem_flatten] at hc
    obtain ⟨l, hl, hc⟩ := hc
    obtain ⟨y, hy, rfl⟩ := List.mem_map.mp hl
    exact strOk_iff.mp (h y hy).1 c hc
  · rw [TL.len_tl, tl_join0]
    induction ys with
    | nil => simp
    | cons y r ih =>
      rw [List.map_cons, List.flatten_cons, List.length_append, List.length_cons]
      have h1 := (h y List.mem_cons_self).2
      rw [TL.len_tl] at h1
      have h2 := ih fun y hy => h y (List.mem_cons_of_mem _ hy)
      have : n * (r.length + 1) = n * r.length + n := Nat.mul_succ _ _
      omega
/-- data that are such texts -/
def NmD (n : Nat) (x : D) : Prop := ∃ z, x = .str z ∧ Nm n z
theorem strsOf_map : ∀ ys : List Str, strsOf (ys.map D.str) = some ys
  | [] => rfl
  | y :: ys => by
    show (strsOf (ys.map D.str)).map (y :: ·) = _
    rw [strsOf_map ys]
    rfl
theorem NmD.list {n : Nat} : ∀ {ds : List D}, (∀ d ∈ ds, NmD n d) → ∃ ys : List Str, ds = ys.map D.str ∧ ∀ y ∈ ys, Nm n y
  | [], _ => ⟨[], rfl, fun _ h => by simp at h⟩
  | d :: ds, h => by
    obtain ⟨ys, rfl, hy⟩ := NmD.list fun d hd => h d (List.mem_cons_of_mem _ hd)
    obtain ⟨z, rfl, hz⟩ := h d List.mem_cons_self
    refine ⟨z :: ys, rfl, fun y hm => ?_⟩
    rcases List.mem_cons.mp hm with rfl | hm
    · exact hz
    · exact hy y hm
theorem len_sum {n : Nat} : ∀ {ys : List Str}, (∀ y ∈ ys, Nm n y) → (ys.map (·.length)).sum ≤ n * ys.length
  | [], _ => by simp
  | y :: ys, h => by
    have h1 := (h y List.mem_cons_self).2
    have h2 := len_sum fun y hy => h y (List.mem_cons_of_mem _ hy)
    rw [List.map_cons, List.sum_cons, List.length_cons, Nat.mul_succ]
    omega
@[simp] theorem ix_3_0 : ixN 3 0 = some 0 := rfl
@[simp] theorem ix_3_1 : ixN 3 1 = some 1 := rfl
@[simp] theorem ix_3_2 : ixN 3 2 = some 2 := rfl
end Dn
end

section
set_option Elab.async false
set_option linter.all false
set_option maxRecDepth 100000
set_option maxHeartbeats 4000000
/-! Dn: slices, ranges, as lists. -/
namespace Dn
open PySem PySem.Spec L2
theorem sIx_nn {n d : Nat} {i : Int} (h : 0 ≤ i) : HT.sIx n d (some i) = min i.toNat n := by
  unfold HT.sIx
  simp
  omega
@[simp] theorem sIx_no {n d : Nat} : HT.sIx n d none = d := rfl
theorem cut_mem {α : Type} {xs : List α} {lo hi : Option Int} {x : α} (h : x ∈ cut xs lo hi) : x ∈ xs := by
  unfold cut at h
  exact List.mem_of_mem_drop (List.mem_of_mem_take h)
theorem cut_len {α : Type} (xs : List α) (lo hi : Option Int) : (cut xs lo hi).length ≤ xs.length := by
  unfold cut
  rw [List.length_take, List.length_drop]
  omega
theorem cut_mid {α : Type} {xs : List α} {i j : Nat} : cut xs (some (i : Int)) (some (j : Int)) = (xs.drop (min i xs.length)).take (min j xs.length - min i xs.length) := by
  unfold cut
  rw [sIx_nn (by omega), sIx_nn (by omega)]
  rfl
theorem cut_to {α : Type} {xs : List α} {j : Nat} : cut xs none (some (j : Int)) = xs.take j := by
  unfold cut
  rw [sIx_no, sIx_nn (by omega), List.drop_zero, Nat.sub_zero, Int.toNat_natCast]
  by_cases h : j ≤ xs.length
  · rw [Nat.min_eq_left h]
  · rw [Nat.min_eq_right (by omega), List.take_of_length_le (Nat.le_refl _), List.take_of_length_le (by omega)]
theorem cut_from {α : Type} {xs : List α} {i : Nat} : cut xs (some (i : Int)) none = xs.drop i := by
  unfold cut
  rw [sIx_no, sIx_nn (by omega), Int.toNat_natCast]
  by_cases h : i ≤ xs.length
  · rw [Nat.min_eq_left h, List.take_of_length_le (by rw [List.length_drop]; omega)]
  · rw [Nat.min_eq_right (by omega), Nat.sub_self, List.take_zero, List.drop_of_length_le (by omega)]
theorem cut_init {α : Type} {xs : List α} : cut xs none (some (-1)) = xs.dropLast := by
  unfold cut
  have : HT.sIx xs.length xs.length (some (-1)) = xs.length - 1 := by
    unfold HT.sIx
    simp
    omega
  rw [this, sIx_no, List.drop_zero, Nat.sub_zero, List.dropLast_eq_take]
@[simp] theorem at_m1 {α : Type} {x : α} : atI [x] (-1) = some x := rfl
@[simp] theorem at_m2 {α : Type} {x y : α} : atI [x, y] (-1) = some y := rfl
@[simp] theorem at_m3 {α : Type} {x y z : α} : atI [x, y, z] (-1) = some z := rfl
@[simp] theorem at_m4 {α : Type} {x y z u : α} : atI [x, y, z, u] (-1) = some u := rfl
@[simp] theorem at_4 {α : Type} {a b c d e : α} {xs : List α} : atI (a :: b :: c :: d :: e :: xs) 4 = some e := by
  have := atI_nn (xs := a :: b :: c :: d :: e :: xs) (k := 4)
  simpa using this
@[simp] theorem at_5 {α : Type} {a b c d e f : α} {xs : List α} : atI (a :: b :: c :: d :: e :: f :: xs) 5 = some f := by
  have := atI_nn (xs := a :: b :: c :: d :: e :: f :: xs) (k := 5)
  simpa using this
@[simp] theorem rng_len {lo : Int} {n : Nat} : (rng lo n).length = n := by simp [rng]
theorem rng_mem {lo : Int} {n : Nat} {x : D} (h : x ∈ rng lo n) : ∃ k : Nat, k < n ∧ x = .int (lo + k) := by
  unfold rng at h
  obtain ⟨k, hk, rfl⟩ := List.mem_map.mp h
  exact ⟨k, List.mem_range.mp hk, rfl⟩
end Dn
end

section
set_option Elab.async false
set_option linter.all false
set_option maxRecDepth 100000
set_option maxHeartbeats 4000000
namespace Dn.k49
open PySem PySem.Spec L2 Dn
def K_WITH_BLOCK : D := (.tup [(.str "hold"), (.str "group"), (.str "try")])
def G_block_of : DS :=
    (sSeq (sRet (xIf (tB (o2 (o2 (xVar 0) (xC (.int 0)) kIx) (xC K_WITH_BLOCK) kIn)) (o2 (xVar 0) (o1 (xC (.int 1)) kNeg) kIx) (xC .non)))
    sSkip)
def F_block_of : FD := fnF [true] 1 G_block_of
def G_has_pass (F_has_pass : FD) : DS :=
    (sSeq (sFor (itSeq (xVar 0)) (gNm 1) (sSeq (sIf (tOrr (tB (o2 (o2 (xVar 1) (xC (.int 0)) kIx) (xC (.str "pass")) kEq)) (tAn (tB (o2 (o2 (xVar 1) (xC (.int 0)) kIx) (xTup [(xC (.str "hold")), (xC (.str "try"))]) kIn)) (tV (dCall F_has_pass [(o2 (xVar 1) (o1 (xC (.int 1)) kNeg) kIx)] [])))) (sSeq (sRet (xC (.bl true)))
    sSkip) sSkip)
    sSkip))
    (sSeq (sRet (xC (.bl false)))
    sSkip))
def F_has_pass : Nat → FD
  | 0 => fun _ => none
  | n + 1 => fnF [true] 2 (G_has_pass (F_has_pass n))
def G_is_take_tidy (F_has_pass : FD) : DS :=
    (sSeq (sFor (itSeq (o1 (xVar 1) kRev)) (gNm 2) (sSeq (sIf (tAn (tB (o2 (o2 (xVar 2) (xC (.int 0)) kIx) (xC (.str "hold")) kEq)) (tB (o2 (o2 (xVar 2) (xC (.int 2)) kIx) (xVar 0) kEq))) (sSeq (sRet (xC (.bl false)))
    sSkip) sSkip)
    (sSeq (sIf (tAn (tB (o2 (o2 (xVar 2) (xC (.int 0)) kIx) (xC (.str "group")) kEq)) (tNo (tV (dCall F_has_pass [(o2 (xVar 2) (o1 (xC (.int 1)) kNeg) kIx)] [])))) (sSeq (sRet (xC (.bl true)))
    sSkip) sSkip)
    sSkip)))
    (sSeq (sRet (xC (.bl true)))
    sSkip))
def F_is_take_tidy : FD := fnF [true, true] 3 (G_is_take_tidy (F_has_pass 24))
def G_are_takes_tidy (F_block_of F_is_take_tidy F_are_takes_tidy : FD) : DS :=
    (sSeq (sFor (itSeq (xVar 0)) (gNm 2) (sSeq (sIf (tAn (tB (o2 (o2 (xVar 2) (xC (.int 0)) kIx) (xC (.str "take")) kEq)) (tNo (tV (dCall F_is_take_tidy [(o2 (xVar 2) (xC (.int 2)) kIx), (xVar 1)] [])))) (sSeq (sRet (xC (.bl false)))
    sSkip) sSkip)
    (sSeq (sSet 3 (dCall F_block_of [(xVar 2)] []))
    (sSeq (sIf (tAn (tB (o2 (xVar 3) (xC .non) (kIs false))) (tNo (tV (dCall F_are_takes_tidy [(xVar 3), (o2 (xVar 1) (xLst [(xVar 2)]) kAdd)] [])))) (sSeq (sRet (xC (.bl false)))
    sSkip) sSkip)
    sSkip))))
    (sSeq (sRet (xC (.bl true)))
    sSkip))
def F_are_takes_tidy : Nat → FD
  | 0 => fun _ => none
  | n + 1 => fnF [true, true] 4 (G_are_takes_tidy F_block_of F_is_take_tidy (F_are_takes_tidy n))
def G_is_tidy (F_are_takes_tidy : FD) : DS :=
    (sSeq (sRet (dCall F_are_takes_tidy [(xVar 0), (xLst [])] []))
    sSkip)
def F_is_tidy : FD := fnF [true] 1 (G_is_tidy (F_are_takes_tidy 24))
def G__law_box : DS :=
    (sSeq (sSet 2 (o2 (o2 (xC (.int 6089)) (xVar 1) kMul) (xC (.int 57)) kAdd))
    (sSeq (sIf (tB (o2 (xVar 1) (oN [(xVar 0)] kLen) kLt)) (sSeq (sSet 2 (oN [(o2 (xVar 0) (xVar 1) kIx)] kAbs))
    sSkip) (sSeq (sIf (tB (o2 (oN [(xVar 0)] kLen) (xC (.int 0)) kGt)) (sSeq (sSet 2 (o2 (xVar 2) (o2 (o2 (oN [(o2 (xVar 0) (o2 (xVar 1) (oN [(xVar 0)] kLen) kMod) kIx)] kAbs) (xC (.int 2147483629)) kMod) (xC (.int 69653)) kMul) kAdd))
    sSkip) sSkip)
    sSkip))
    (sSeq (sSet 3 (o2 (o2 (o2 (o2 (o2 (xVar 2) (xC (.int 2147483629)) kMod) (xC (.int 48281)) kMul) (o2 (xC (.int 40693)) (xVar 1) kMul) kAdd) (xC (.int 2147483629)) kMod) (xC (.int 1)) kAdd))
    (sSeq (sRet (xLst [(o2 (xLst [(xC (.int 0)), (xVar 2)]) (oN [(o2 (xVar 2) (o2 (xC (.int 10)) (xC (.int 18)) kPow) kGe)] kInt) kIx), (xVar 3), (xC (.int 0))]))
    sSkip))))
def F__law_box : FD := fnF [true, true] 4 G__law_box
def G__law_take : DS :=
    (sSeq (sIf (tB (o2 (o2 (xVar 0) (xC (.int 0)) kIx) (xC (.int 0)) kGt)) (sSeq (sSet 3 (o2 (o2 (xVar 0) (xC (.int 0)) kIx) (xVar 1) kMod))
    (sSeq (sStI (o2 (o2 (xVar 0) (xC (.int 0)) kIx) (xVar 1) kDiv) (xVar 0) (xC (.int 0)))
    (sSeq (sRet (xVar 3))
    sSkip))) sSkip)
    (sSeq (sStI (o2 (o2 (xVar 0) (xC (.int 2)) kIx) (xC (.int 1)) kAdd) (xVar 0) (xC (.int 2)))
    (sSeq (sSet 2 (o2 (o2 (o2 (o2 (xVar 0) (xC (.int 1)) kIx) (o2 (xC (.int 104743)) (o2 (xVar 0) (xC (.int 2)) kIx) kMul) kAdd) (xC (.int 69623)) kMul) (xC (.int 2147483647)) kMod))
    (sSeq (sStI (o2 (o2 (o2 (o2 (xVar 2) (xC (.int 48281)) kMul) (xC (.int 30109)) kAdd) (xC (.int 2147483629)) kMod) (xC (.int 1)) kAdd) (xVar 0) (xC (.int 1)))
    (sSeq (sRet (o2 (o2 (o2 (o2 (xVar 2) (xC (.int 2147483647)) kMul) (o2 (xVar 0) (xC (.int 1)) kIx) kAdd) (xC (.int 8191)) kDiv) (xVar 1) kMod))
    sSkip)))))
def F__law_take : FD := fnF [true, true] 4 G__law_take
def G__law_pick (F__law_take : FD) : DS :=
    (sSeq (sRet (o2 (xVar 1) (dCall F__law_take [(xVar 0), (oN [(xVar 1)] kLen)] []) kIx))
    sSkip)
def F__law_pick : FD := fnF [true, true] 2 (G__law_pick F__law_take)
def G__law_mixed (F__law_take : FD) : DS :=
    (sSeq (sPar [2, 3] [(oN [(xVar 1)] kList), (xLst [])])
    (sSeq (sFor (itN [(oN [(xVar 2)] kLen)] kRng1) (gNm 4) (sSeq (sExp (mO (xVar 3) [(mO (xVar 2) [(dCall F__law_take [(xVar 0), (oN [(xVar 2)] kLen)] [])] oPop)] oAppend))
    sSkip))
    (sSeq (sRet (xVar 3))
    sSkip)))
def F__law_mixed : FD := fnF [true, true] 5 (G__law_mixed F__law_take)
def G__law_names (F__law_mixed F__law_take : FD) : DS :=
    (sSeq (sAsg (xTup [(xC (.str "abcdefghijklmnopqrstuvwxyz")), (dCall F__law_take [(xVar 0), (xC (.int 5))] [])]) (gTp [(gNm 2), (gNm 3)]))
    (sSeq (sIf (tB (o2 (xVar 3) (xC (.int 0)) kEq)) (sSeq (sSet 9 (mR "str" (xC (.str "lay lift share empty hold group take pass try stop")) [(xC (.str " "))] kSplit))
    (sSeq (sSet 9 (o2 (xVar 9) (mR "str" (xC (.str "call slots undo found up trail left fate slot")) [(xC (.str " "))] kSplit) kAdd))
    (sSeq (sSet 6 (dCall F__law_take [(xVar 0), (xC (.int 19))] []))
    (sSeq (sRet (dCall F__law_mixed [(xVar 0), (xSl (o2 (xVar 9) (xVar 9) kAdd) (eI (xVar 6)) (eI (o2 (xVar 6) (xVar 1) kAdd)))] []))
    sSkip)))) sSkip)
    (sSeq (sSet 4 (mR "str" (xC (.str "")) [(xLc (itN [(dCall F__law_take [(xVar 0), (xC (.int 5))] [])] kRng1) [11] (gNm 11) (rE true) (o2 (xVar 2) (dCall F__law_take [(xVar 0), (xC (.int 26))] []) kIx))] kJoin))
    (sSeq (sIf (tAn (tB (o2 (xVar 3) (xC (.int 1)) kEq)) (tB (o2 (xVar 1) (xC (.int 7)) kLt))) (sSeq (sRet (dCall F__law_mixed [(xVar 0), (xLc (itN [(xVar 1)] kRng1) [8] (gNm 8) (rE true) (xSl (o2 (xSl (xVar 4) eNo (eI (xC (.int 1)))) (xC (.str "qvkzjx")) kAdd) eNo (eI (o2 (xVar 8) (xC (.int 1)) kAdd))))] []))
    sSkip) sSkip)
    (sSeq (sAsg (xTup [(dCall F__law_take [(xVar 0), (o2 (oN [(xVar 4)] kLen) (xC (.int 1)) kAdd)] []), (dCall F__law_take [(xVar 0), (xC (.int 26))] [])]) (gTp [(gNm 5), (gNm 6)]))
    (sSeq (sIf (tB (o2 (xVar 3) (xC (.int 2)) kEq)) (sSeq (sRet (dCall F__law_mixed [(xVar 0), (xLc (itN [(xVar 1)] kRng1) [8] (gNm 8) (rE true) (o2 (xSl (o2 (xVar 4) (xC (.str "qvkzj")) kAdd) eNo (eI (xC (.int 5)))) (o2 (xVar 2) (o2 (o2 (xVar 6) (o2 (xC (.int 7)) (xVar 8) kMul) kAdd) (xC (.int 26)) kMod) kIx) kAdd))] []))
    sSkip) sSkip)
    (sSeq (sSet 7 (xLst []))
    (sSeq (sFor (itN [(xVar 1)] kRng1) (gNm 8) (sSeq (sSet 10 (o2 (xVar 2) (o2 (o2 (xVar 6) (o2 (xC (.int 7)) (xVar 8) kMul) kAdd) (xC (.int 26)) kMod) kIx))
    (sSeq (sExp (mO (xVar 7) [(o2 (o2 (o2 (xSl (xVar 4) eNo (eI (xVar 5))) (xVar 10) kAdd) (xSl (xVar 4) (eI (xVar 5)) eNo) kAdd) (o2 (xVar 10) (o2 (xVar 8) (xC (.int 2)) kMod) kMul) kAdd)] oAppend))
    sSkip)))
    (sSeq (sRet (dCall F__law_mixed [(xVar 0), (xVar 7)] []))
    sSkip)))))))))
def F__law_names : FD := fnF [true, true] 12 (G__law_names F__law_mixed F__law_take)
def G__law_world (F__law_names F__law_take : FD) : DS :=
    (sSeq (sSet 3 (dCall F__law_names [(xVar 0), (o2 (xC (.int 1)) (dCall F__law_take [(xVar 0), (xVar 1)] []) kAdd)] []))
    (sSeq (sIf (tB (o2 (dCall F__law_take [(xVar 0), (xC (.int 4))] []) (xC (.int 0)) kEq)) (sSeq (sRet (xTup [(xVar 3), (xSl (xVar 3) eNo (eI (o2 (xC (.int 1)) (dCall F__law_take [(xVar 0), (oN [(xVar 2), (oN [(xVar 3)] kLen)] kMin2)] []) kAdd)))]))
    sSkip) sSkip)
    (sSeq (sRet (xTup [(xVar 3), (dCall F__law_names [(xVar 0), (o2 (xC (.int 1)) (dCall F__law_take [(xVar 0), (xVar 2)] []) kAdd)] [])]))
    sSkip)))
def F__law_world : FD := fnF [true, true, true] 4 (G__law_world F__law_names F__law_take)
def G__law_size (F__law_size : FD) : DS :=
    (sSeq (sRet (oN [(xLc (itSeq (xVar 0)) [1] (gNm 1) (rE true) (o2 (xC (.int 1)) (xIf (tB (o2 (o2 (xVar 1) (xC (.int 0)) kIx) (xTup [(xC (.str "hold")), (xC (.str "group")), (xC (.str "try"))]) kIn)) (dCall F__law_size [(o2 (xVar 1) (o1 (xC (.int 1)) kNeg) kIx)] []) (xC (.int 0))) kAdd))] kSum))
    sSkip)
def F__law_size : Nat → FD
  | 0 => fun _ => none
  | n + 1 => fnF [true] 2 (G__law_size (F__law_size n))
def G__law_block (F__law_take F__law_pick F__law_size F__law_block : FD) : DS :=
    (sSeq (sPar [4, 5] [(xLst []), (xVar 3)])
    (sSeq (whN (tAn (tB (o2 (xVar 5) (xC (.int 0)) kGt)) (tB (o2 (dCall F__law_take [(xVar 0), (xC (.int 7))] []) (xC (.int 0)) kGt))) (sSeq (sPar [6, 7, 8] [(dCall F__law_pick [(xVar 0), (o2 (xVar 1) (xC (.int 0)) kIx)] []), (dCall F__law_pick [(xVar 0), (o2 (xVar 1) (xC (.int 1)) kIx)] []), (dCall F__law_take [(xVar 0), (xC (.int 12))] [])])
    (sSeq (sIf (tAn (tB (o2 (xVar 8) (xC (.int 6)) kLt)) (tB (o2 (xVar 2) (xC (.int 1)) kGt))) (sSeq (sSet 9 (dCall F__law_block [(xVar 0), (xVar 1), (o2 (xVar 2) (xC (.int 1)) kSub), (dCall F__law_take [(xVar 0), (xVar 5)] [])] []))
    (sSeq (sSet 10 (o2 (xLst [(xTup [(xC (.str "hold")), (xVar 6), (xVar 7), (xVar 9)]), (xTup [(xC (.str "group")), (xVar 9)]), (xTup [(xC (.str "try")), (xVar 9)])]) (o2 (xLst [(xC (.int 0)), (xC (.int 0)), (xC (.int 1)), (xC (.int 1)), (xC (.int 1)), (xC (.int 2))]) (xVar 8) kIx) kIx))
    sSkip)) (sSeq (sIf (tB (o2 (xVar 8) (xC (.int 9)) kLt)) (sSeq (sSet 10 (xTup [(xC (.str "take")), (xVar 6), (xVar 7)]))
    sSkip) (sSeq (sSet 10 (o2 (xLst [(xTup [(xC (.str "pass"))]), (xTup [(xC (.str "stop"))]), (xTup [(xC (.str "call")), (xVar 7)])]) (o2 (xVar 8) (xC (.int 9)) kSub) kIx))
    sSkip))
    sSkip))
    (sSeq (sExp (mO (xVar 4) [(xVar 10)] oAppend))
    (sSeq (sSet 5 (o2 (xVar 5) (dCall F__law_size [(xTup [(xVar 10)])] []) kSub))
    sSkip)))) 2000)
    (sSeq (sRet (oN [(xVar 4)] kTuple))
    sSkip)))
def F__law_block : Nat → FD
  | 0 => fun _ => none
  | n + 1 => fnF [true, true, true, true] 11 (G__law_block F__law_take F__law_pick (F__law_size 24) (F__law_block n))
def G__law_takes_with_ways (F__law_takes_with_ways : FD) : DS :=
    (sSeq (sSet 2 (xLst []))
    (sSeq (sFor (itSeq (xVar 0)) (gNm 3) (sSeq (sIf (tB (o2 (o2 (xVar 3) (xC (.int 0)) kIx) (xC (.str "take")) kEq)) (sSeq (sExp (mO (xVar 2) [(xTup [(xVar 3), (xVar 1)])] oAppend))
    sSkip) sSkip)
    (sSeq (sIf (tB (o2 (o2 (xVar 3) (xC (.int 0)) kIx) (xTup [(xC (.str "hold")), (xC (.str "group")), (xC (.str "try"))]) kIn)) (sSeq (sExp (mO (xVar 2) [(dCall F__law_takes_with_ways [(o2 (xVar 3) (o1 (xC (.int 1)) kNeg) kIx), (o2 (xVar 1) (xLst [(xVar 3)]) kAdd)] [])] oExtend))
    sSkip) sSkip)
    sSkip)))
    (sSeq (sRet (xVar 2))
    sSkip)))
def F__law_takes_with_ways : Nat → FD
  | 0 => fun _ => none
  | n + 1 => fnF [true, true] 4 (G__law_takes_with_ways (F__law_takes_with_ways n))
def G__law_passes (F__law_passes : FD) : DS :=
    (sSeq (sFor (itSeq (xVar 0)) (gNm 1) (sSeq (sIf (tOrr (tB (o2 (o2 (xVar 1) (xC (.int 0)) kIx) (xC (.str "pass")) kEq)) (tAn (tB (o2 (o2 (xVar 1) (xC (.int 0)) kIx) (xTup [(xC (.str "hold")), (xC (.str "try"))]) kIn)) (tV (dCall F__law_passes [(o2 (xVar 1) (o1 (xC (.int 1)) kNeg) kIx)] [])))) (sSeq (sRet (xC (.bl true)))
    sSkip) sSkip)
    sSkip))
    (sSeq (sRet (xC (.bl false)))
    sSkip))
def F__law_passes : Nat → FD
  | 0 => fun _ => none
  | n + 1 => fnF [true] 2 (G__law_passes (F__law_passes n))
def G__law_is_tidy (F__law_takes_with_ways F__law_passes : FD) : DS :=
    (sSeq (sFor (itSeq (dCall F__law_takes_with_ways [(xVar 0), (xLst [])] [])) (gTp [(gNm 1), (gNm 2)]) (sSeq (sSet 3 (xLc (itD (xVar 2) kEnumA) [5, 6] (gTp [(gNm 5), (gNm 6)]) (tB (o2 (o2 (xVar 6) (xC (.int 0)) kIx) (xC (.str "group")) kEq)) (xVar 5)))
    (sSeq (whN (tAn (tB (o2 (xVar 3) (xLst []) kNe)) (tV (dCall F__law_passes [(o2 (o2 (xVar 2) (o2 (xVar 3) (o1 (xC (.int 1)) kNeg) kIx) kIx) (o1 (xC (.int 1)) kNeg) kIx)] []))) (sSeq (sExp (mO (xVar 3) [] oPop))
    sSkip) 2000)
    (sSeq (sSet 4 (xIf (tB (o2 (xVar 3) (xLst []) kNe)) (xSl (xVar 2) (eI (o2 (o2 (xVar 3) (o1 (xC (.int 1)) kNeg) kIx) (xC (.int 1)) kAdd)) eNo) (xVar 2)))
    (sSeq (sIf (tB (o2 (xLc (itSeq (xVar 4)) [6] (gNm 6) (tAn (tB (o2 (o2 (xVar 6) (xC (.int 0)) kIx) (xC (.str "hold")) kEq)) (tB (o2 (o2 (xVar 6) (xC (.int 2)) kIx) (o2 (xVar 1) (xC (.int 2)) kIx) kEq))) (xVar 6)) (xLst []) kNe)) (sSeq (sRet (xC (.bl false)))
    sSkip) sSkip)
    sSkip)))))
    (sSeq (sRet (xC (.bl true)))
    sSkip))
def F__law_is_tidy : FD := fnF [true] 7 (G__law_is_tidy (F__law_takes_with_ways 24) (F__law_passes 24))
def G__law_tower (F__law_take F__law_pick : FD) : DS :=
    (sSeq (sSet 2 (xTup [(xTup [(xC (.str "take")), (dCall F__law_pick [(xVar 0), (o2 (xVar 1) (xC (.int 0)) kIx)] []), (dCall F__law_pick [(xVar 0), (o2 (xVar 1) (xC (.int 1)) kIx)] [])])]))
    (sSeq (sFor (itN [(dCall F__law_take [(xVar 0), (xC (.int 7))] [])] kRng1) (gNm 3) (sSeq (sPar [4, 5, 6] [(dCall F__law_take [(xVar 0), (xC (.int 5))] []), (dCall F__law_pick [(xVar 0), (o2 (xVar 1) (xC (.int 0)) kIx)] []), (dCall F__law_pick [(xVar 0), (o2 (xVar 1) (xC (.int 1)) kIx)] [])])
    (sSeq (sSet 7 (xLst [(xTup []), (xTup [(xTup [(xC (.str "pass"))])]), (xTup []), (xTup [(xTup [(xC (.str "call")), (xVar 6)])])]))
    (sSeq (sSet 2 (o2 (o2 (dCall F__law_pick [(xVar 0), (xVar 7)] []) (xVar 2) kAdd) (dCall F__law_pick [(xVar 0), (xVar 7)] []) kAdd))
    (sSeq (sIf (tB (o2 (xVar 4) (xC (.int 2)) kLt)) (sSeq (sSet 2 (xTup [(xTup [(xC (.str "hold")), (xVar 5), (xVar 6), (xVar 2)])]))
    sSkip) (sSeq (sIf (tB (o2 (xVar 4) (xC (.int 4)) kLt)) (sSeq (sSet 2 (xTup [(xTup [(xC (.str "group")), (xVar 2)])]))
    sSkip) (sSeq (sSet 2 (xTup [(xTup [(xC (.str "try")), (xVar 2)])]))
    sSkip))
    sSkip))
    sSkip)))))
    (sSeq (sRet (xVar 2))
    sSkip)))
def F__law_tower : FD := fnF [true, true] 8 (G__law_tower F__law_take F__law_pick)
def G__law_near (F__law_pick F__law_take F__law_near : FD) : DS :=
    (sSeq (sSet 3 (xLc (itD (xVar 2) kEnumA) [4, 5] (gTp [(gNm 4), (gNm 5)]) (tB (o2 (o2 (xVar 5) (xC (.int 0)) kIx) (xTup [(xC (.str "hold")), (xC (.str "group")), (xC (.str "try"))]) kIn)) (xVar 4)))
    (sSeq (sIf (tAn (tB (o2 (xVar 3) (xLst []) kNe)) (tB (o2 (dCall F__law_take [(xVar 0), (xC (.int 3))] []) (xC (.int 0)) kGt))) (sSeq (sSet 4 (dCall F__law_pick [(xVar 0), (xVar 3)] []))
    (sSeq (sSet 6 (dCall F__law_near [(xVar 0), (xVar 1), (o2 (o2 (xVar 2) (xVar 4) kIx) (o1 (xC (.int 1)) kNeg) kIx)] []))
    (sSeq (sRet (o2 (o2 (xSl (xVar 2) eNo (eI (xVar 4))) (xTup [(o2 (xSl (o2 (xVar 2) (xVar 4) kIx) eNo (eI (o1 (xC (.int 1)) kNeg))) (xTup [(xVar 6)]) kAdd)]) kAdd) (xSl (xVar 2) (eI (o2 (xVar 4) (xC (.int 1)) kAdd)) eNo) kAdd))
    sSkip))) sSkip)
    (sSeq (sPar [4, 5] [(dCall F__law_take [(xVar 0), (o2 (oN [(xVar 2)] kLen) (xC (.int 1)) kAdd)] []), (xTup [(xC (.str "take")), (dCall F__law_pick [(xVar 0), (o2 (xVar 1) (xC (.int 0)) kIx)] []), (dCall F__law_pick [(xVar 0), (o2 (xVar 1) (xC (.int 1)) kIx)] [])])])
    (sSeq (sRet (o2 (o2 (xSl (xVar 2) eNo (eI (xVar 4))) (o2 (xLst [(xTup [(xTup [(xC (.str "pass"))])]), (xTup [(xVar 5)]), (xTup [])]) (dCall F__law_take [(xVar 0), (xC (.int 3))] []) kIx) kAdd) (xSl (xVar 2) (eI (o2 (xVar 4) (dCall F__law_take [(xVar 0), (xC (.int 2))] []) kAdd)) eNo) kAdd))
    sSkip))))
def F__law_near : Nat → FD
  | 0 => fun _ => none
  | n + 1 => fnF [true, true, true] 7 (G__law_near F__law_pick F__law_take (F__law_near n))
def G_law (F__law_box F__law_world F__law_block F__law_tower F__law_mixed F__law_near F__law_pick F_is_tidy F__law_is_tidy F__law_take : FD) : DS :=
    (sSeq (sFor (itN [(oN [(xC (.int 2)), (oN [(xC (.int 4)), (oN [(xVar 0)] kLen)] kMin2)] kMax2)] kRng1) (gNm 1) (sSeq (sSet 2 (dCall F__law_box [(xVar 0), (xVar 1)] []))
    (sSeq (sSet 3 (dCall F__law_world [(xVar 2), (xC (.int 3)), (xC (.int 3))] []))
    (sSeq (sSet 4 (xLst [(xTup []), (dCall F__law_block [(xVar 2), (xVar 3), (xC (.int 8)), (xC (.int 40))] [])]))
    (sSeq (sExp (mO (xVar 4) [(dCall F__law_block [(xVar 2), (xVar 3), (xC (.int 8)), (xC (.int 12))] [])] oAppend))
    (sSeq (sFor (itN [(xC (.int 12))] kRng1) (gNm 5) (sSeq (sSet 7 (dCall F__law_tower [(xVar 2), (xVar 3)] []))
    (sSeq (sExp (mO (xVar 4) [(o2 (xVar 7) (o2 (dCall F__law_tower [(xVar 2), (xVar 3)] []) (dCall F__law_take [(xVar 2), (xC (.int 2))] []) kMul) kAdd)] oAppend))
    (sSeq (sExp (mO (xVar 4) [(dCall F__law_near [(xVar 2), (xVar 3), (dCall F__law_pick [(xVar 2), (xVar 4)] [])] [])] oAppend))
    sSkip))))
    (sSeq (sFor (itSeq (o2 (dCall F__law_mixed [(xVar 2), (xVar 4)] []) (xVar 4) kAdd)) (gNm 6) (sSeq (sIf (tB (o2 (oN [(dCall F_is_tidy [(xVar 6)] [])] kRepr) (oN [(dCall F__law_is_tidy [(xVar 6)] [])] kRepr) kNe)) (sSeq (sRet (xC (.bl false)))
    sSkip) sSkip)
    sSkip))
    sSkip)))))))
    (sSeq (sRet (xC (.bl true)))
    sSkip))
def F_law : FD := fnF [true] 8 (G_law F__law_box F__law_world (F__law_block 24) F__law_tower F__law_mixed (F__law_near 24) F__law_pick F_is_tidy F__law_is_tidy F__law_take)
end Dn.k49
end

section
set_option Elab.async false
set_option linter.all false
set_option maxRecDepth 100000
set_option maxHeartbeats 4000000
namespace Dn.k49
open PySem PySem.Spec L2 Dn
def top (i : Nat) : Stmt := PySem.Challenge.pw_asfound_k49_tidy_programs.main.body.getD i (.Pass ⟨0, 0, 0, 0⟩)
/-- what the text finds outside its defs -/
structure Fr (K : Fg) (mg : MG) : Prop where
  b_abs : mg "abs" = none
  b_enumerate : mg "enumerate" = none
  b_int : mg "int" = none
  b_len : mg "len" = none
  b_list : mg "list" = none
  b_max : mg "max" = none
  b_min : mg "min" = none
  b_range : mg "range" = none
  b_repr : mg "repr" = none
  b_sum : mg "sum" = none
  b_tuple : mg "tuple" = none
  c_WITH_BLOCK : ∃ v u, mg "WITH_BLOCK" = some u ∧ RelV v u ∧ ∀ F, Rep K F K_WITH_BLOCK v
section
variable {P : Program} {w : World} {K : Fg} {mg : MG} {base : Heap} {fA : Addr} {fd : FuncData} {k : Nat}
abbrev s_block_of : Stmt := top 2
theorem sc_block_of : FnScope ["statement"] ["statement"] (defScope s_block_of) := ⟨rfl, rfl, rfl, by decide +kernel, rfl, by decide +kernel, by decide +kernel⟩
theorem ok_block_of (F : FunD K "block_of" "block_of" (defArgs s_block_of) (defBody s_block_of) (defScope s_block_of) [] [] fA fd) (gl : mg "block_of" = some (.ref fA)) (R : Fr K mg)  : Has P w K mg base (k + 1) "block_of" ["statement"] 1 F_block_of :=
  has_of F gl (FunD.bindsN (ps := ["statement"]) F fun _ _ _ _ _ _ us hl => match us, hl with | [_], _ => rfl) (fnD (pm := [true]) (N := ["statement"]) (g := G_block_of) F sc_block_of rfl (fun cdv A outer s H E W hr hG tk po => by
      have hN := sc_block_of.nd
      have hu := hr.un200
      have hu64 := hr.un64
      have hu65 := hr.un65
      exact (pss_consD (ps_retD (pe_ifD (pt_cmpD (cIn hu65) (pe_ixD (pe_nm 0) pe_intD) (pe_gloE rfl R.c_WITH_BLOCK) (by with_unfolding_all rfl)) (pe_ixD (pe_nm 0) (pe_negD pe_intD)) pe_nonD))
    pss_nilD)))
abbrev s_has_pass : Stmt := top 3
theorem sc_has_pass : FnScope ["block", "statement"] ["block"] (defScope s_has_pass) := ⟨rfl, rfl, rfl, by decide +kernel, rfl, by decide +kernel, by decide +kernel⟩
theorem ok_has_pass (F : FunD K "has_pass" "has_pass" (defArgs s_has_pass) (defBody s_has_pass) (defScope s_has_pass) [] [] fA fd) (gl : mg "has_pass" = some (.ref fA)) (R : Fr K mg)  : ∀ n : Nat, Has P w K mg base (k + n) "has_pass" ["block"] 1 (F_has_pass n)
  | 0 => has_of F gl (FunD.bindsN (ps := ["block"]) F fun _ _ _ _ _ _ us hl => match us, hl with | [_], _ => rfl) fn_zero
  | n + 1 => by
    have h_has_pass := ok_has_pass F gl R  n
    exact has_of F gl (FunD.bindsN (ps := ["block"]) F fun _ _ _ _ _ _ us hl => match us, hl with | [_], _ => rfl) (fnD (k := k + n) (pm := [true]) (N := ["block", "statement"]) (g := (G_has_pass (F_has_pass n))) F sc_has_pass rfl (fun cdv A outer s H E W hr hG tk po => by
      have hN := sc_has_pass.nd
      have hu := hr.un200
      have hu64 := hr.un64
      have hu65 := hr.un65
      exact (pss_consD (ps_forD po rfl (pi_seqD (pe_nm 0)) (pg_nmD 1 hN) (pss_consD (ps_ifD (PW.pt (pw_orD (pt_cmpD (cEq hu64) (pe_ixD (pe_nm 1) pe_intD) pe_strD (nomark _)) (pw_or1D (PW.pt (pw_andD (pt_cmpD (cIn hu65) (pe_ixD (pe_nm 1) pe_intD) (pe_tupD (pa_consD pe_strD (pa_consD pe_strD pa_nilD))) (by with_unfolding_all rfl)) (pw_and1D (pt_valD (pe_us h_has_pass hr hG tk rfl (pa_consD (pe_ixD (pe_nm 1) (pe_negD pe_intD)) pa_nilD))))))))) (pss_consD (ps_retD pe_blD)
    pss_nilD) pss_nilD)
    pss_nilD))
    (pss_consD (ps_retD pe_blD)
    pss_nilD))))
abbrev s_is_take_tidy : Stmt := top 5
theorem sc_is_take_tidy : FnScope ["slot", "around", "statement"] ["slot", "around"] (defScope s_is_take_tidy) := ⟨rfl, rfl, rfl, by decide +kernel, rfl, by decide +kernel, by decide +kernel⟩
theorem ok_is_take_tidy (F : FunD K "is_take_tidy" "is_take_tidy" (defArgs s_is_take_tidy) (defBody s_is_take_tidy) (defScope s_is_take_tidy) [] [] fA fd) (gl : mg "is_take_tidy" = some (.ref fA)) (R : Fr K mg) (h_has_pass : Has P w K mg base k "has_pass" ["block"] 1 (F_has_pass 24)) : Has P w K mg base (k + 1) "is_take_tidy" ["slot", "around"] 2 F_is_take_tidy :=
  has_of F gl (FunD.bindsN (ps := ["slot", "around"]) F fun _ _ _ _ _ _ us hl => match us, hl with | [_, _], _ => rfl) (fnD (pm := [true, true]) (N := ["slot", "around", "statement"]) (g := (G_is_take_tidy (F_has_pass 24))) F sc_is_take_tidy rfl (fun cdv A outer s H E W hr hG tk po => by
      have hN := sc_is_take_tidy.nd
      have hu := hr.un200
      have hu64 := hr.un64
      have hu65 := hr.un65
      exact (pss_consD (ps_forD po rfl (pi_seqD (pe_revD (pe_nm 1))) (pg_nmD 2 hN) (pss_consD (ps_ifD (PW.pt (pw_andD (pt_cmpD (cEq hu64) (pe_ixD (pe_nm 2) pe_intD) pe_strD (nomark _)) (pw_and1D (pt_cmpD (cEq hu64) (pe_ixD (pe_nm 2) pe_intD) (pe_nm 0) (nomark _))))) (pss_consD (ps_retD pe_blD)
    pss_nilD) pss_nilD)
    (pss_consD (ps_ifD (PW.pt (pw_andD (pt_cmpD (cEq hu64) (pe_ixD (pe_nm 2) pe_intD) pe_strD (nomark _)) (pw_and1D (pt_notD (pt_valD (pe_us h_has_pass hr hG tk rfl (pa_consD (pe_ixD (pe_nm 2) (pe_negD pe_intD)) pa_nilD))))))) (pss_consD (ps_retD pe_blD)
    pss_nilD) pss_nilD)
    pss_nilD)))
    (pss_consD (ps_retD pe_blD)
    pss_nilD))))
abbrev s_are_takes_tidy : Stmt := top 4
theorem sc_are_takes_tidy : FnScope ["block", "around", "statement", "inner"] ["block", "around"] (defScope s_are_takes_tidy) := ⟨rfl, rfl, rfl, by decide +kernel, rfl, by decide +kernel, by decide +kernel⟩
theorem ok_are_takes_tidy (F : FunD K "are_takes_tidy" "are_takes_tidy" (defArgs s_are_takes_tidy) (defBody s_are_takes_tidy) (defScope s_are_takes_tidy) [] [] fA fd) (gl : mg "are_takes_tidy" = some (.ref fA)) (R : Fr K mg) (h_block_of : Has P w K mg base k "block_of" ["statement"] 1 F_block_of) (h_is_take_tidy : Has P w K mg base k "is_take_tidy" ["slot", "around"] 2 F_is_take_tidy) : ∀ n : Nat, Has P w K mg base (k + n) "are_takes_tidy" ["block", "around"] 2 (F_are_takes_tidy n)
  | 0 => has_of F gl (FunD.bindsN (ps := ["block", "around"]) F fun _ _ _ _ _ _ us hl => match us, hl with | [_, _], _ => rfl) fn_zero
  | n + 1 => by
    have h_are_takes_tidy := ok_are_takes_tidy F gl R h_block_of h_is_take_tidy n
    have h_block_of := h_block_of.mono (Nat.le_add_right k n)
    have h_is_take_tidy := h_is_take_tidy.mono (Nat.le_add_right k n)
    exact has_of F gl (FunD.bindsN (ps := ["block", "around"]) F fun _ _ _ _ _ _ us hl => match us, hl with | [_, _], _ => rfl) (fnD (k := k + n) (pm := [true, true]) (N := ["block", "around", "statement", "inner"]) (g := (G_are_takes_tidy F_block_of F_is_take_tidy (F_are_takes_tidy n))) F sc_are_takes_tidy rfl (fun cdv A outer s H E W hr hG tk po => by
      have hN := sc_are_takes_tidy.nd
      have hu := hr.un200
      have hu64 := hr.un64
      have hu65 := hr.un65
      exact (pss_consD (ps_forD po rfl (pi_seqD (pe_nm 0)) (pg_nmD 2 hN) (pss_consD (ps_ifD (PW.pt (pw_andD (pt_cmpD (cEq hu64) (pe_ixD (pe_nm 2) pe_intD) pe_strD (nomark _)) (pw_and1D (pt_notD (pt_valD (pe_us h_is_take_tidy hr hG tk rfl (pa_consD (pe_ixD (pe_nm 2) pe_intD) (pa_consD (pe_nm 1) pa_nilD)))))))) (pss_consD (ps_retD pe_blD)
    pss_nilD) pss_nilD)
    (pss_consD (ps_setD (i := 3) rfl hN rfl (by first | exact .inl rfl | exact .inr rfl) (pe_us h_block_of hr hG tk rfl (pa_consD (pe_nm 2) pa_nilD)))
    (pss_consD (ps_ifD (PW.pt (pw_andD (pt_cmpD cIsN (pe_nm 3) pe_nonD (nomark _)) (pw_and1D (pt_notD (pt_valD (pe_us h_are_takes_tidy hr hG tk rfl (pa_consD (pe_nm 3) (pa_consD (pe_add4 (pe_nm 1) (pe_lstD (pa_consD (pe_nm 2) pa_nilD))) pa_nilD)))))))) (pss_consD (ps_retD pe_blD)
    pss_nilD) pss_nilD)
    pss_nilD))))
    (pss_consD (ps_retD pe_blD)
    pss_nilD))))
abbrev s_is_tidy : Stmt := top 6
theorem sc_is_tidy : FnScope ["program"] ["program"] (defScope s_is_tidy) := ⟨rfl, rfl, rfl, by decide +kernel, rfl, by decide +kernel, by decide +kernel⟩
theorem ok_is_tidy (F : FunD K "is_tidy" "is_tidy" (defArgs s_is_tidy) (defBody s_is_tidy) (defScope s_is_tidy) [] [] fA fd) (gl : mg "is_tidy" = some (.ref fA)) (R : Fr K mg) (h_are_takes_tidy : Has P w K mg base k "are_takes_tidy" ["block", "around"] 2 (F_are_takes_tidy 24)) : Has P w K mg base (k + 1) "is_tidy" ["program"] 1 F_is_tidy :=
  has_of F gl (FunD.bindsN (ps := ["program"]) F fun _ _ _ _ _ _ us hl => match us, hl with | [_], _ => rfl) (fnD (pm := [true]) (N := ["program"]) (g := (G_is_tidy (F_are_takes_tidy 24))) F sc_is_tidy rfl (fun cdv A outer s H E W hr hG tk po => by
      have hN := sc_is_tidy.nd
      have hu := hr.un200
      have hu64 := hr.un64
      have hu65 := hr.un65
      exact (pss_consD (ps_retD (pe_us h_are_takes_tidy hr hG tk rfl (pa_consD (pe_nm 0) (pa_consD (pe_lstD pa_nilD) pa_nilD))))
    pss_nilD)))
abbrev s__law_box : Stmt := top 8
theorem sc__law_box : FnScope ["_law_script", "_law_k", "_law_cell", "_law_seed"] ["_law_script", "_law_k"] (defScope s__law_box) := ⟨rfl, rfl, rfl, by decide +kernel, rfl, by decide +kernel, by decide +kernel⟩
theorem ok__law_box (F : FunD K "_law_box" "_law_box" (defArgs s__law_box) (defBody s__law_box) (defScope s__law_box) [] [] fA fd) (gl : mg "_law_box" = some (.ref fA)) (R : Fr K mg)  : Has P w K mg base (k + 1) "_law_box" ["_law_script", "_law_k"] 2 F__law_box :=
  has_of F gl (FunD.bindsN (ps := ["_law_script", "_law_k"]) F fun _ _ _ _ _ _ us hl => match us, hl with | [_, _], _ => rfl) (fnD (pm := [true, true]) (N := ["_law_script", "_law_k", "_law_cell", "_law_seed"]) (g := G__law_box) F sc__law_box rfl (fun cdv A outer s H E W hr hG tk po => by
      have hN := sc__law_box.nd
      have hu := hr.un200
      have hu64 := hr.un64
      have hu65 := hr.un65
      exact (pss_consD (ps_setD (i := 2) rfl hN rfl (by first | exact .inl rfl | exact .inr rfl) (pe_add4 (pe_mulD pe_intD (pe_nm 1)) pe_intD))
    (pss_consD (ps_ifD (pt_cmpD cLt (pe_nm 1) (pe_cbD cf_len rfl R.b_len b_len (pa_consD (pe_nm 0) pa_nilD)) (nomark _)) (pss_consD (ps_setD (i := 2) rfl hN rfl (by first | exact .inl rfl | exact .inr rfl) (pe_cbD cf_abs rfl R.b_abs b_abs (pa_consD (pe_ixD (pe_nm 0) (pe_nm 1)) pa_nilD)))
    pss_nilD) (pss_consD (ps_ifD (pt_cmpD cGt (pe_cbD cf_len rfl R.b_len b_len (pa_consD (pe_nm 0) pa_nilD)) pe_intD (nomark _)) (pss_consD (ps_setD (i := 2) rfl hN rfl (by first | exact .inl rfl | exact .inr rfl) (pe_add4 (pe_nm 2) (pe_mulD (pe_modD (pe_cbD cf_abs rfl R.b_abs b_abs (pa_consD (pe_ixD (pe_nm 0) (pe_modD (pe_nm 1) (pe_cbD cf_len rfl R.b_len b_len (pa_consD (pe_nm 0) pa_nilD)))) pa_nilD)) pe_intD) pe_intD)))
    pss_nilD) pss_nilD)
    pss_nilD))
    (pss_consD (ps_setD (i := 3) rfl hN rfl (by first | exact .inl rfl | exact .inr rfl) (pe_add4 (pe_modD (pe_add4 (pe_mulD (pe_modD (pe_nm 2) pe_intD) pe_intD) (pe_mulD pe_intD (pe_nm 1))) pe_intD) pe_intD))
    (pss_consD (ps_retD (pe_lstD (pa_consD (pe_ixD (pe_lstD (pa_consD pe_intD (pa_consD (pe_nm 2) pa_nilD))) (pe_ctD cf_int rfl R.b_int b_int (pa_consD (pe_cmpD cGe (pe_nm 2) (pe_powD pe_intD pe_intD) (nomark _)) pa_nilD))) (pa_consD (pe_nm 3) (pa_consD pe_intD pa_nilD)))))
    pss_nilD))))))
abbrev s__law_take : Stmt := top 9
theorem sc__law_take : FnScope ["_law_box_here", "_law_many", "_law_one", "_law_digit"] ["_law_box_here", "_law_many"] (defScope s__law_take) := ⟨rfl, rfl, rfl, by decide +kernel, rfl, by decide +kernel, by decide +kernel⟩
theorem ok__law_take (F : FunD K "_law_take" "_law_take" (defArgs s__law_take) (defBody s__law_take) (defScope s__law_take) [] [] fA fd) (gl : mg "_law_take" = some (.ref fA)) (R : Fr K mg)  : Has P w K mg base (k + 1) "_law_take" ["_law_box_here", "_law_many"] 2 F__law_take :=
  has_of F gl (FunD.bindsN (ps := ["_law_box_here", "_law_many"]) F fun _ _ _ _ _ _ us hl => match us, hl with | [_, _], _ => rfl) (fnD (pm := [true, true]) (N := ["_law_box_here", "_law_many", "_law_one", "_law_digit"]) (g := G__law_take) F sc__law_take rfl (fun cdv A outer s H E W hr hG tk po => by
      have hN := sc__law_take.nd
      have hu := hr.un200
      have hu64 := hr.un64
      have hu65 := hr.un65
      exact (pss_consD (ps_ifD (pt_cmpD cGt (pe_ixD (pe_nm 0) pe_intD) pe_intD (nomark _)) (pss_consD (ps_setD (i := 3) rfl hN rfl (by first | exact .inl rfl | exact .inr rfl) (pe_modD (pe_ixD (pe_nm 0) pe_intD) (pe_nm 1)))
    (pss_consD (ps_stID (pe_divD (pe_ixD (pe_nm 0) pe_intD) (pe_nm 1)) (pe_nm 0) pe_intD)
    (pss_consD (ps_retD (pe_nm 3))
    pss_nilD))) pss_nilD)
    (pss_consD (ps_stID (pe_add4 (pe_ixD (pe_nm 0) pe_intD) pe_intD) (pe_nm 0) pe_intD)
    (pss_consD (ps_setD (i := 2) rfl hN rfl (by first | exact .inl rfl | exact .inr rfl) (pe_modD (pe_mulD (pe_add4 (pe_ixD (pe_nm 0) pe_intD) (pe_mulD pe_intD (pe_ixD (pe_nm 0) pe_intD))) pe_intD) pe_intD))
    (pss_consD (ps_stID (pe_add4 (pe_modD (pe_add4 (pe_mulD (pe_nm 2) pe_intD) pe_intD) pe_intD) pe_intD) (pe_nm 0) pe_intD)
    (pss_consD (ps_retD (pe_modD (pe_divD (pe_add4 (pe_mulD (pe_nm 2) pe_intD) (pe_ixD (pe_nm 0) pe_intD)) pe_intD) (pe_nm 1)))
    pss_nilD)))))))
abbrev s__law_pick : Stmt := top 10
theorem sc__law_pick : FnScope ["_law_box_here", "_law_items"] ["_law_box_here", "_law_items"] (defScope s__law_pick) := ⟨rfl, rfl, rfl, by decide +kernel, rfl, by decide +kernel, by decide +kernel⟩
theorem ok__law_pick (F : FunD K "_law_pick" "_law_pick" (defArgs s__law_pick) (defBody s__law_pick) (defScope s__law_pick) [] [] fA fd) (gl : mg "_law_pick" = some (.ref fA)) (R : Fr K mg) (h__law_take : Has P w K mg base k "_law_take" ["_law_box_here", "_law_many"] 2 F__law_take) : Has P w K mg base (k + 1) "_law_pick" ["_law_box_here", "_law_items"] 2 F__law_pick :=
  has_of F gl (FunD.bindsN (ps := ["_law_box_here", "_law_items"]) F fun _ _ _ _ _ _ us hl => match us, hl with | [_, _], _ => rfl) (fnD (pm := [true, true]) (N := ["_law_box_here", "_law_items"]) (g := (G__law_pick F__law_take)) F sc__law_pick rfl (fun cdv A outer s H E W hr hG tk po => by
      have hN := sc__law_pick.nd
      have hu := hr.un200
      have hu64 := hr.un64
      have hu65 := hr.un65
      exact (pss_consD (ps_retD (pe_ixD (pe_nm 1) (pe_us h__law_take hr hG tk rfl (pa_consD (pe_nm 0) (pa_consD (pe_cbD cf_len rfl R.b_len b_len (pa_consD (pe_nm 1) pa_nilD)) pa_nilD)))))
    pss_nilD)))
abbrev s__law_mixed : Stmt := top 11
theorem sc__law_mixed : FnScope ["_law_box_here", "_law_items", "_law_left", "_law_found", "_law_turn"] ["_law_box_here", "_law_items"] (defScope s__law_mixed) := ⟨rfl, rfl, rfl, by decide +kernel, rfl, by decide +kernel, by decide +kernel⟩
theorem ok__law_mixed (F : FunD K "_law_mixed" "_law_mixed" (defArgs s__law_mixed) (defBody s__law_mixed) (defScope s__law_mixed) [] [] fA fd) (gl : mg "_law_mixed" = some (.ref fA)) (R : Fr K mg) (h__law_take : Has P w K mg base k "_law_take" ["_law_box_here", "_law_many"] 2 F__law_take) : Has P w K mg base (k + 1) "_law_mixed" ["_law_box_here", "_law_items"] 2 F__law_mixed :=
  has_of F gl (FunD.bindsN (ps := ["_law_box_here", "_law_items"]) F fun _ _ _ _ _ _ us hl => match us, hl with | [_, _], _ => rfl) (fnD (pm := [true, true]) (N := ["_law_box_here", "_law_items", "_law_left", "_law_found", "_law_turn"]) (g := (G__law_mixed F__law_take)) F sc__law_mixed rfl (fun cdv A outer s H E W hr hG tk po => by
      have hN := sc__law_mixed.nd
      have hu := hr.un200
      have hu64 := hr.un64
      have hu65 := hr.un65
      exact (pss_consD (ps_par2D (i := 2) (j := 3) (all2 rfl rfl) rfl hN rfl rfl (by decide) rfl rfl (pe_ctD cf_list rfl R.b_list b_list (pa_consD (pe_nm 1) pa_nilD)) (pe_lstD pa_nilD) (by rfl))
    (pss_consD (ps_forD po rfl (pi_rng1D rfl R.b_range (pe_cbD cf_len rfl R.b_len b_len (pa_consD (pe_nm 2) pa_nilD))) (pg_nmD 4 hN) (pss_consD (ps_expD (pe_oD ow_append (pe_nm 3) (pa_consD (pe_oD ow_pop (pe_nm 2) (pa_consD (pe_us h__law_take hr hG tk rfl (pa_consD (pe_nm 0) (pa_consD (pe_cbD cf_len rfl R.b_len b_len (pa_consD (pe_nm 2) pa_nilD)) pa_nilD))) pa_nilD)) pa_nilD)))
    pss_nilD))
    (pss_consD (ps_retD (pe_nm 3))
    pss_nilD)))))
abbrev s__law_names : Stmt := top 12
theorem sc__law_names : FnScope ["_law_box_here", "_law_many", "_law_letters", "_law_form", "_law_stem", "_law_at", "_law_first", "_law_found", "_law_k", "_law_words", "_law_letter", "_law_turn"] ["_law_box_here", "_law_many"] (defScope s__law_names) := ⟨rfl, rfl, rfl, by decide +kernel, rfl, by decide +kernel, by decide +kernel⟩
theorem ok__law_names (F : FunD K "_law_names" "_law_names" (defArgs s__law_names) (defBody s__law_names) (defScope s__law_names) [] [] fA fd) (gl : mg "_law_names" = some (.ref fA)) (R : Fr K mg) (h__law_mixed : Has P w K mg base k "_law_mixed" ["_law_box_here", "_law_items"] 2 F__law_mixed) (h__law_take : Has P w K mg base k "_law_take" ["_law_box_here", "_law_many"] 2 F__law_take) : Has P w K mg base (k + 1) "_law_names" ["_law_box_here", "_law_many"] 2 F__law_names :=
  has_of F gl (FunD.bindsN (ps := ["_law_box_here", "_law_many"]) F fun _ _ _ _ _ _ us hl => match us, hl with | [_, _], _ => rfl) (fnD (pm := [true, true]) (N := ["_law_box_here", "_law_many", "_law_letters", "_law_form", "_law_stem", "_law_at", "_law_first", "_law_found", "_law_k", "_law_words", "_law_letter", "_law_turn"]) (g := (G__law_names F__law_mixed F__law_take)) F sc__law_names rfl (fun cdv A outer s H E W hr hG tk po => by
      have hN := sc__law_names.nd
      have hu := hr.un200
      have hu64 := hr.un64
      have hu65 := hr.un65
      exact (pss_consD (ps_asgD (pe_tupD (pa_consD pe_strD (pa_consD (pe_us h__law_take hr hG tk rfl (pa_consD (pe_nm 0) (pa_consD pe_intD pa_nilD))) pa_nilD))) (pg_tpD rfl (pgs_consD (pg_nmD 2 hN) (pgs_consD (pg_nmD 3 hN) pgs_nilD))))
    (pss_consD (ps_ifD (pt_cmpD (cEq hu64) (pe_nm 3) pe_intD (nomark _)) (pss_consD (ps_setD (i := 9) rfl hN rfl (by first | exact .inl rfl | exact .inr rfl) (pe_mD mf_split pe_strD (pa_consD pe_strD pa_nilD)))
    (pss_consD (ps_setD (i := 9) rfl hN rfl (by first | exact .inl rfl | exact .inr rfl) (pe_add4 (pe_nm 9) (pe_mD mf_split pe_strD (pa_consD pe_strD pa_nilD))))
    (pss_consD (ps_setD (i := 6) rfl hN rfl (by first | exact .inl rfl | exact .inr rfl) (pe_us h__law_take hr hG tk rfl (pa_consD (pe_nm 0) (pa_consD pe_intD pa_nilD))))
    (pss_consD (ps_retD (pe_us h__law_mixed hr hG tk rfl (pa_consD (pe_nm 0) (pa_consD (pe_slD (pe_add4 (pe_nm 9) (pe_nm 9)) (po_soD (pe_nm 6)) (po_soD (pe_add4 (pe_nm 6) (pe_nm 1)))) pa_nilD))))
    pss_nilD)))) pss_nilD)
    (pss_consD (ps_setD (i := 4) rfl hN rfl (by first | exact .inl rfl | exact .inr rfl) (pe_mD mf_join pe_strD (pa_consD (pe_lcD (own := [("_law_turn", 11)]) rfl hN (pi_rng1D rfl R.b_range (pe_us h__law_take hr hG tk rfl (pa_consD (pe_nm 0) (pa_consD pe_intD pa_nilD)))) (show BlkOk ["_law_box_here", "_law_many", "_law_letters", "_law_form", "_law_stem", "_law_at", "_law_first", "_law_found", "_law_k", "_law_words", "_law_letter", "_law_turn"] (defScope s__law_names) _ _ from blkOk_by (by decide +kernel)) gl_nm (fun _ _ _ _ _ => (pg_nmD 11 hN)) (fun _ _ _ _ _ => pts_nilD) (fun _ _ _ _ _ => (pe_ixD (pe_nm 2) (pe_us h__law_take hr hG takes_no rfl (pa_consD (pe_nm 0) (pa_consD pe_intD pa_nilD)))))) pa_nilD)))
    (pss_consD (ps_ifD (PW.pt (pw_andD (pt_cmpD (cEq hu64) (pe_nm 3) pe_intD (nomark _)) (pw_and1D (pt_cmpD cLt (pe_nm 1) pe_intD (nomark _))))) (pss_consD (ps_retD (pe_us h__law_mixed hr hG tk rfl (pa_consD (pe_nm 0) (pa_consD (pe_lcD (own := [("_law_k", 8)]) rfl hN (pi_rng1D rfl R.b_range (pe_nm 1)) (show BlkOk ["_law_box_here", "_law_many", "_law_letters", "_law_form", "_law_stem", "_law_at", "_law_first", "_law_found", "_law_k", "_law_words", "_law_letter", "_law_turn"] (defScope s__law_names) _ _ from blkOk_by (by decide +kernel)) gl_nm (fun _ _ _ _ _ => (pg_nmD 8 hN)) (fun _ _ _ _ _ => pts_nilD) (fun _ _ _ _ _ => (pe_slD (pe_add4 (pe_slD (pe_nm 4) po_noD (po_soD pe_intD)) pe_strD) po_noD (po_soD (pe_add4 (pe_nm 8) pe_intD))))) pa_nilD))))
    pss_nilD) pss_nilD)
    (pss_consD (ps_asgD (pe_tupD (pa_consD (pe_us h__law_take hr hG tk rfl (pa_consD (pe_nm 0) (pa_consD (pe_add4 (pe_cbD cf_len rfl R.b_len b_len (pa_consD (pe_nm 4) pa_nilD)) pe_intD) pa_nilD))) (pa_consD (pe_us h__law_take hr hG tk rfl (pa_consD (pe_nm 0) (pa_consD pe_intD pa_nilD))) pa_nilD))) (pg_tpD rfl (pgs_consD (pg_nmD 5 hN) (pgs_consD (pg_nmD 6 hN) pgs_nilD))))
    (pss_consD (ps_ifD (pt_cmpD (cEq hu64) (pe_nm 3) pe_intD (nomark _)) (pss_consD (ps_retD (pe_us h__law_mixed hr hG tk rfl (pa_consD (pe_nm 0) (pa_consD (pe_lcD (own := [("_law_k", 8)]) rfl hN (pi_rng1D rfl R.b_range (pe_nm 1)) (show BlkOk ["_law_box_here", "_law_many", "_law_letters", "_law_form", "_law_stem", "_law_at", "_law_first", "_law_found", "_law_k", "_law_words", "_law_letter", "_law_turn"] (defScope s__law_names) _ _ from blkOk_by (by decide +kernel)) gl_nm (fun _ _ _ _ _ => (pg_nmD 8 hN)) (fun _ _ _ _ _ => pts_nilD) (fun _ _ _ _ _ => (pe_add4 (pe_slD (pe_add4 (pe_nm 4) pe_strD) po_noD (po_soD pe_intD)) (pe_ixD (pe_nm 2) (pe_modD (pe_add4 (pe_nm 6) (pe_mulD pe_intD (pe_nm 8))) pe_intD))))) pa_nilD))))
    pss_nilD) pss_nilD)
    (pss_consD (ps_setD (i := 7) rfl hN rfl (by first | exact .inl rfl | exact .inr rfl) (pe_lstD pa_nilD))
    (pss_consD (ps_forD po rfl (pi_rng1D rfl R.b_range (pe_nm 1)) (pg_nmD 8 hN) (pss_consD (ps_setD (i := 10) rfl hN rfl (by first | exact .inl rfl | exact .inr rfl) (pe_ixD (pe_nm 2) (pe_modD (pe_add4 (pe_nm 6) (pe_mulD pe_intD (pe_nm 8))) pe_intD)))
    (pss_consD (ps_expD (pe_oD ow_append (pe_nm 7) (pa_consD (pe_add4 (pe_add4 (pe_add4 (pe_slD (pe_nm 4) po_noD (po_soD (pe_nm 5))) (pe_nm 10)) (pe_slD (pe_nm 4) (po_soD (pe_nm 5)) po_noD)) (pe_mulD (pe_nm 10) (pe_modD (pe_nm 8) pe_intD))) pa_nilD)))
    pss_nilD)))
    (pss_consD (ps_retD (pe_us h__law_mixed hr hG tk rfl (pa_consD (pe_nm 0) (pa_consD (pe_nm 7) pa_nilD))))
    pss_nilD)))))))))))
abbrev s__law_world : Stmt := top 13
theorem sc__law_world : FnScope ["_law_box_here", "_law_most_hands", "_law_most_slots", "_law_some"] ["_law_box_here", "_law_most_hands", "_law_most_slots"] (defScope s__law_world) := ⟨rfl, rfl, rfl, by decide +kernel, rfl, by decide +kernel, by decide +kernel⟩
theorem ok__law_world (F : FunD K "_law_world" "_law_world" (defArgs s__law_world) (defBody s__law_world) (defScope s__law_world) [] [] fA fd) (gl : mg "_law_world" = some (.ref fA)) (R : Fr K mg) (h__law_names : Has P w K mg base k "_law_names" ["_law_box_here", "_law_many"] 2 F__law_names) (h__law_take : Has P w K mg base k "_law_take" ["_law_box_here", "_law_many"] 2 F__law_take) : Has P w K mg base (k + 1) "_law_world" ["_law_box_here", "_law_most_hands", "_law_most_slots"] 3 F__law_world :=
  has_of F gl (FunD.bindsN (ps := ["_law_box_here", "_law_most_hands", "_law_most_slots"]) F fun _ _ _ _ _ _ us hl => match us, hl with | [_, _, _], _ => rfl) (fnD (pm := [true, true, true]) (N := ["_law_box_here", "_law_most_hands", "_law_most_slots", "_law_some"]) (g := (G__law_world F__law_names F__law_take)) F sc__law_world rfl (fun cdv A outer s H E W hr hG tk po => by
      have hN := sc__law_world.nd
      have hu := hr.un200
      have hu64 := hr.un64
      have hu65 := hr.un65
      exact (pss_consD (ps_setD (i := 3) rfl hN rfl (by first | exact .inl rfl | exact .inr rfl) (pe_us h__law_names hr hG tk rfl (pa_consD (pe_nm 0) (pa_consD (pe_add4 pe_intD (pe_us h__law_take hr hG tk rfl (pa_consD (pe_nm 0) (pa_consD (pe_nm 1) pa_nilD)))) pa_nilD))))
    (pss_consD (ps_ifD (pt_cmpD (cEq hu64) (pe_us h__law_take hr hG tk rfl (pa_consD (pe_nm 0) (pa_consD pe_intD pa_nilD))) pe_intD (nomark _)) (pss_consD (ps_retD (pe_tupD (pa_consD (pe_nm 3) (pa_consD (pe_slD (pe_nm 3) po_noD (po_soD (pe_add4 pe_intD (pe_us h__law_take hr hG tk rfl (pa_consD (pe_nm 0) (pa_consD (pe_cbD (cf_min2 rfl) rfl R.b_min b_min (pa_consD (pe_nm 2) (pa_consD (pe_cbD cf_len rfl R.b_len b_len (pa_consD (pe_nm 3) pa_nilD)) pa_nilD))) pa_nilD)))))) pa_nilD))))
    pss_nilD) pss_nilD)
    (pss_consD (ps_retD (pe_tupD (pa_consD (pe_nm 3) (pa_consD (pe_us h__law_names hr hG tk rfl (pa_consD (pe_nm 0) (pa_consD (pe_add4 pe_intD (pe_us h__law_take hr hG tk rfl (pa_consD (pe_nm 0) (pa_consD (pe_nm 2) pa_nilD)))) pa_nilD))) pa_nilD))))
    pss_nilD)))))
abbrev s__law_size : Stmt := top 14
theorem sc__law_size : FnScope ["_law_block_here", "_law_one"] ["_law_block_here"] (defScope s__law_size) := ⟨rfl, rfl, rfl, by decide +kernel, rfl, by decide +kernel, by decide +kernel⟩
theorem ok__law_size (F : FunD K "_law_size" "_law_size" (defArgs s__law_size) (defBody s__law_size) (defScope s__law_size) [] [] fA fd) (gl : mg "_law_size" = some (.ref fA)) (R : Fr K mg)  : ∀ n : Nat, Has P w K mg base (k + n) "_law_size" ["_law_block_here"] 1 (F__law_size n)
  | 0 => has_of F gl (FunD.bindsN (ps := ["_law_block_here"]) F fun _ _ _ _ _ _ us hl => match us, hl with | [_], _ => rfl) fn_zero
  | n + 1 => by
    have h__law_size := ok__law_size F gl R  n
    exact has_of F gl (FunD.bindsN (ps := ["_law_block_here"]) F fun _ _ _ _ _ _ us hl => match us, hl with | [_], _ => rfl) (fnD (k := k + n) (pm := [true]) (N := ["_law_block_here", "_law_one"]) (g := (G__law_size (F__law_size n))) F sc__law_size rfl (fun cdv A outer s H E W hr hG tk po => by
      have hN := sc__law_size.nd
      have hu := hr.un200
      have hu64 := hr.un64
      have hu65 := hr.un65
      exact (pss_consD (ps_retD (pe_cbD (cf_sum rfl) rfl R.b_sum b_sum (pa_consD (pe_lcD (own := [("_law_one", 1)]) rfl hN (pi_seqD (pe_nm 0)) (show BlkOk ["_law_block_here", "_law_one"] (defScope s__law_size) _ _ from blkOk_by (by decide +kernel)) gl_nm (fun _ _ _ _ _ => (pg_nmD 1 hN)) (fun _ _ _ _ _ => pts_nilD) (fun _ _ _ _ _ => (pe_add4 pe_intD (pe_ifD (pt_cmpD (cIn hu65) (pe_ixD (pe_nm 1) pe_intD) (pe_tupD (pa_consD pe_strD (pa_consD pe_strD (pa_consD pe_strD pa_nilD)))) (by with_unfolding_all rfl)) (pe_us h__law_size hr hG takes_no rfl (pa_consD (pe_ixD (pe_nm 1) (pe_negD pe_intD)) pa_nilD)) pe_intD)))) pa_nilD)))
    pss_nilD)))
abbrev s__law_block : Stmt := top 15
theorem sc__law_block : FnScope ["_law_box_here", "_law_world_here", "_law_deep", "_law_room", "_law_found", "_law_left", "_law_hand", "_law_spot", "_law_form", "_law_inner", "_law_one"] ["_law_box_here", "_law_world_here", "_law_deep", "_law_room"] (defScope s__law_block) := ⟨rfl, rfl, rfl, by decide +kernel, rfl, by decide +kernel, by decide +kernel⟩
theorem ok__law_block (F : FunD K "_law_block" "_law_block" (defArgs s__law_block) (defBody s__law_block) (defScope s__law_block) [] [] fA fd) (gl : mg "_law_block" = some (.ref fA)) (R : Fr K mg) (h__law_take : Has P w K mg base k "_law_take" ["_law_box_here", "_law_many"] 2 F__law_take) (h__law_pick : Has P w K mg base k "_law_pick" ["_law_box_here", "_law_items"] 2 F__law_pick) (h__law_size : Has P w K mg base k "_law_size" ["_law_block_here"] 1 (F__law_size 24)) : ∀ n : Nat, Has P w K mg base (k + n) "_law_block" ["_law_box_here", "_law_world_here", "_law_deep", "_law_room"] 4 (F__law_block n)
  | 0 => has_of F gl (FunD.bindsN (ps := ["_law_box_here", "_law_world_here", "_law_deep", "_law_room"]) F fun _ _ _ _ _ _ us hl => match us, hl with | [_, _, _, _], _ => rfl) fn_zero
  | n + 1 => by
    have h__law_block := ok__law_block F gl R h__law_take h__law_pick h__law_size n
    have h__law_take := h__law_take.mono (Nat.le_add_right k n)
    have h__law_pick := h__law_pick.mono (Nat.le_add_right k n)
    have h__law_size := h__law_size.mono (Nat.le_add_right k n)
    exact has_of F gl (FunD.bindsN (ps := ["_law_box_here", "_law_world_here", "_law_deep", "_law_room"]) F fun _ _ _ _ _ _ us hl => match us, hl with | [_, _, _, _], _ => rfl) (fnD (k := k + n) (pm := [true, true, true, true]) (N := ["_law_box_here", "_law_world_here", "_law_deep", "_law_room", "_law_found", "_law_left", "_law_hand", "_law_spot", "_law_form", "_law_inner", "_law_one"]) (g := (G__law_block F__law_take F__law_pick (F__law_size 24) (F__law_block n))) F sc__law_block rfl (fun cdv A outer s H E W hr hG tk po => by
      have hN := sc__law_block.nd
      have hu := hr.un200
      have hu64 := hr.un64
      have hu65 := hr.un65
      exact (pss_consD (ps_par2D (i := 4) (j := 5) (all2 rfl rfl) rfl hN rfl rfl (by decide) rfl rfl (pe_lstD pa_nilD) (pe_nm 3) (by rfl))
    (pss_consD (ps_whlD 2000 po (PW.pt (pw_andD (pt_cmpD cGt (pe_nm 5) pe_intD (nomark _)) (pw_and1D (pt_cmpD cGt (pe_us h__law_take hr hG tk rfl (pa_consD (pe_nm 0) (pa_consD pe_intD pa_nilD))) pe_intD (nomark _))))) (pss_consD (ps_par3D (i := 6) (j := 7) (l := 8) (all3 rfl rfl rfl) rfl hN rfl rfl rfl (by decide) (by decide) (by decide) rfl rfl rfl (pe_us h__law_pick hr hG tk rfl (pa_consD (pe_nm 0) (pa_consD (pe_ixD (pe_nm 1) pe_intD) pa_nilD))) (pe_us h__law_pick hr hG tk rfl (pa_consD (pe_nm 0) (pa_consD (pe_ixD (pe_nm 1) pe_intD) pa_nilD))) (pe_us h__law_take hr hG tk rfl (pa_consD (pe_nm 0) (pa_consD pe_intD pa_nilD))) (by rfl))
    (pss_consD (ps_ifD (PW.pt (pw_andD (pt_cmpD cLt (pe_nm 8) pe_intD (nomark _)) (pw_and1D (pt_cmpD cGt (pe_nm 2) pe_intD (nomark _))))) (pss_consD (ps_setD (i := 9) rfl hN rfl (by first | exact .inl rfl | exact .inr rfl) (pe_us h__law_block hr hG tk rfl (pa_consD (pe_nm 0) (pa_consD (pe_nm 1) (pa_consD (pe_subD (pe_nm 2) pe_intD) (pa_consD (pe_us h__law_take hr hG tk rfl (pa_consD (pe_nm 0) (pa_consD (pe_nm 5) pa_nilD))) pa_nilD))))))
    (pss_consD (ps_setD (i := 10) rfl hN rfl (by first | exact .inl rfl | exact .inr rfl) (pe_ixD (pe_lstD (pa_consD (pe_tupD (pa_consD pe_strD (pa_consD (pe_nm 6) (pa_consD (pe_nm 7) (pa_consD (pe_nm 9) pa_nilD))))) (pa_consD (pe_tupD (pa_consD pe_strD (pa_consD (pe_nm 9) pa_nilD))) (pa_consD (pe_tupD (pa_consD pe_strD (pa_consD (pe_nm 9) pa_nilD))) pa_nilD)))) (pe_ixD (pe_lstD (pa_consD pe_intD (pa_consD pe_intD (pa_consD pe_intD (pa_consD pe_intD (pa_consD pe_intD (pa_consD pe_intD pa_nilD))))))) (pe_nm 8))))
    pss_nilD)) (pss_consD (ps_ifD (pt_cmpD cLt (pe_nm 8) pe_intD (nomark _)) (pss_consD (ps_setD (i := 10) rfl hN rfl (by first | exact .inl rfl | exact .inr rfl) (pe_tupD (pa_consD pe_strD (pa_consD (pe_nm 6) (pa_consD (pe_nm 7) pa_nilD)))))
    pss_nilD) (pss_consD (ps_setD (i := 10) rfl hN rfl (by first | exact .inl rfl | exact .inr rfl) (pe_ixD (pe_lstD (pa_consD (pe_tupD (pa_consD pe_strD pa_nilD)) (pa_consD (pe_tupD (pa_consD pe_strD pa_nilD)) (pa_consD (pe_tupD (pa_consD pe_strD (pa_consD (pe_nm 7) pa_nilD))) pa_nilD)))) (pe_subD (pe_nm 8) pe_intD)))
    pss_nilD))
    pss_nilD))
    (pss_consD (ps_expD (pe_oD ow_append (pe_nm 4) (pa_consD (pe_nm 10) pa_nilD)))
    (pss_consD (ps_setD (i := 5) rfl hN rfl (by first | exact .inl rfl | exact .inr rfl) (pe_subD (pe_nm 5) (pe_us h__law_size hr hG tk rfl (pa_consD (pe_tupD (pa_consD (pe_nm 10) pa_nilD)) pa_nilD))))
    pss_nilD)))))
    (pss_consD (ps_retD (pe_ctD cf_tuple rfl R.b_tuple b_tuple (pa_consD (pe_nm 4) pa_nilD)))
    pss_nilD)))))
abbrev s__law_takes_with_ways : Stmt := top 16
theorem sc__law_takes_with_ways : FnScope ["_law_block_here", "_law_way", "_law_found", "_law_one"] ["_law_block_here", "_law_way"] (defScope s__law_takes_with_ways) := ⟨rfl, rfl, rfl, by decide +kernel, rfl, by decide +kernel, by decide +kernel⟩
theorem ok__law_takes_with_ways (F : FunD K "_law_takes_with_ways" "_law_takes_with_ways" (defArgs s__law_takes_with_ways) (defBody s__law_takes_with_ways) (defScope s__law_takes_with_ways) [] [] fA fd) (gl : mg "_law_takes_with_ways" = some (.ref fA)) (R : Fr K mg)  : ∀ n : Nat, Has P w K mg base (k + n) "_law_takes_with_ways" ["_law_block_here", "_law_way"] 2 (F__law_takes_with_ways n)
  | 0 => has_of F gl (FunD.bindsN (ps := ["_law_block_here", "_law_way"]) F fun _ _ _ _ _ _ us hl => match us, hl with | [_, _], _ => rfl) fn_zero
  | n + 1 => by
    have h__law_takes_with_ways := ok__law_takes_with_ways F gl R  n
    exact has_of F gl (FunD.bindsN (ps := ["_law_block_here", "_law_way"]) F fun _ _ _ _ _ _ us hl => match us, hl with | [_, _], _ => rfl) (fnD (k := k + n) (pm := [true, true]) (N := ["_law_block_here", "_law_way", "_law_found", "_law_one"]) (g := (G__law_takes_with_ways (F__law_takes_with_ways n))) F sc__law_takes_with_ways rfl (fun cdv A outer s H E W hr hG tk po => by
      have hN := sc__law_takes_with_ways.nd
      have hu := hr.un200
      have hu64 := hr.un64
      have hu65 := hr.un65
      exact (pss_consD (ps_setD (i := 2) rfl hN rfl (by first | exact .inl rfl | exact .inr rfl) (pe_lstD pa_nilD))
    (pss_consD (ps_forD po rfl (pi_seqD (pe_nm 0)) (pg_nmD 3 hN) (pss_consD (ps_ifD (pt_cmpD (cEq hu64) (pe_ixD (pe_nm 3) pe_intD) pe_strD (nomark _)) (pss_consD (ps_expD (pe_oD ow_append (pe_nm 2) (pa_consD (pe_tupD (pa_consD (pe_nm 3) (pa_consD (pe_nm 1) pa_nilD))) pa_nilD)))
    pss_nilD) pss_nilD)
    (pss_consD (ps_ifD (pt_cmpD (cIn hu65) (pe_ixD (pe_nm 3) pe_intD) (pe_tupD (pa_consD pe_strD (pa_consD pe_strD (pa_consD pe_strD pa_nilD)))) (by with_unfolding_all rfl)) (pss_consD (ps_expD (pe_oD ow_extend (pe_nm 2) (pa_consD (pe_us h__law_takes_with_ways hr hG tk rfl (pa_consD (pe_ixD (pe_nm 3) (pe_negD pe_intD)) (pa_consD (pe_add4 (pe_nm 1) (pe_lstD (pa_consD (pe_nm 3) pa_nilD))) pa_nilD))) pa_nilD)))
    pss_nilD) pss_nilD)
    pss_nilD)))
    (pss_consD (ps_retD (pe_nm 2))
    pss_nilD)))))
abbrev s__law_passes : Stmt := top 17
theorem sc__law_passes : FnScope ["_law_block_here", "_law_one"] ["_law_block_here"] (defScope s__law_passes) := ⟨rfl, rfl, rfl, by decide +kernel, rfl, by decide +kernel, by decide +kernel⟩
theorem ok__law_passes (F : FunD K "_law_passes" "_law_passes" (defArgs s__law_passes) (defBody s__law_passes) (defScope s__law_passes) [] [] fA fd) (gl : mg "_law_passes" = some (.ref fA)) (R : Fr K mg)  : ∀ n : Nat, Has P w K mg base (k + n) "_law_passes" ["_law_block_here"] 1 (F__law_passes n)
  | 0 => has_of F gl (FunD.bindsN (ps := ["_law_block_here"]) F fun _ _ _ _ _ _ us hl => match us, hl with | [_], _ => rfl) fn_zero
  | n + 1 => by
    have h__law_passes := ok__law_passes F gl R  n
    exact has_of F gl (FunD.bindsN (ps := ["_law_block_here"]) F fun _ _ _ _ _ _ us hl => match us, hl with | [_], _ => rfl) (fnD (k := k + n) (pm := [true]) (N := ["_law_block_here", "_law_one"]) (g := (G__law_passes (F__law_passes n))) F sc__law_passes rfl (fun cdv A outer s H E W hr hG tk po => by
      have hN := sc__law_passes.nd
      have hu := hr.un200
      have hu64 := hr.un64
      have hu65 := hr.un65
      exact (pss_consD (ps_forD po rfl (pi_seqD (pe_nm 0)) (pg_nmD 1 hN) (pss_consD (ps_ifD (PW.pt (pw_orD (pt_cmpD (cEq hu64) (pe_ixD (pe_nm 1) pe_intD) pe_strD (nomark _)) (pw_or1D (PW.pt (pw_andD (pt_cmpD (cIn hu65) (pe_ixD (pe_nm 1) pe_intD) (pe_tupD (pa_consD pe_strD (pa_consD pe_strD pa_nilD))) (by with_unfolding_all rfl)) (pw_and1D (pt_valD (pe_us h__law_passes hr hG tk rfl (pa_consD (pe_ixD (pe_nm 1) (pe_negD pe_intD)) pa_nilD))))))))) (pss_consD (ps_retD pe_blD)
    pss_nilD) pss_nilD)
    pss_nilD))
    (pss_consD (ps_retD pe_blD)
    pss_nilD))))
abbrev s__law_is_tidy : Stmt := top 18
theorem sc__law_is_tidy : FnScope ["_law_block_here", "_law_take_here", "_law_way", "_law_groups", "_law_inside", "_law_at", "_law_one"] ["_law_block_here"] (defScope s__law_is_tidy) := ⟨rfl, rfl, rfl, by decide +kernel, rfl, by decide +kernel, by decide +kernel⟩
theorem ok__law_is_tidy (F : FunD K "_law_is_tidy" "_law_is_tidy" (defArgs s__law_is_tidy) (defBody s__law_is_tidy) (defScope s__law_is_tidy) [] [] fA fd) (gl : mg "_law_is_tidy" = some (.ref fA)) (R : Fr K mg) (h__law_takes_with_ways : Has P w K mg base k "_law_takes_with_ways" ["_law_block_here", "_law_way"] 2 (F__law_takes_with_ways 24)) (h__law_passes : Has P w K mg base k "_law_passes" ["_law_block_here"] 1 (F__law_passes 24)) : Has P w K mg base (k + 1) "_law_is_tidy" ["_law_block_here"] 1 F__law_is_tidy :=
  has_of F gl (FunD.bindsN (ps := ["_law_block_here"]) F fun _ _ _ _ _ _ us hl => match us, hl with | [_], _ => rfl) (fnD (pm := [true]) (N := ["_law_block_here", "_law_take_here", "_law_way", "_law_groups", "_law_inside", "_law_at", "_law_one"]) (g := (G__law_is_tidy (F__law_takes_with_ways 24) (F__law_passes 24))) F sc__law_is_tidy rfl (fun cdv A outer s H E W hr hG tk po => by
      have hN := sc__law_is_tidy.nd
      have hu := hr.un200
      have hu64 := hr.un64
      have hu65 := hr.un65
      exact (pss_consD (ps_forD po rfl (pi_seqD (pe_us h__law_takes_with_ways hr hG tk rfl (pa_consD (pe_nm 0) (pa_consD (pe_lstD pa_nilD) pa_nilD)))) (pg_tpD rfl (pgs_consD (pg_nmD 1 hN) (pgs_consD (pg_nmD 2 hN) pgs_nilD))) (pss_consD (ps_setLcD (i := 3) (hp := rfl) (hy := rfl) (hyl := rfl) (hsw := sw_true rfl rfl rfl (by decide +kernel)) (hc := rfl) (hN := hN) (own := [("_law_at", 5), ("_law_one", 6)]) (pi_enumAD rfl R.b_enumerate (pe_nm 2)) (show BlkOk ["_law_block_here", "_law_take_here", "_law_way", "_law_groups", "_law_inside", "_law_at", "_law_one"] (defScope s__law_is_tidy) _ _ from blkOk_by (by decide +kernel)) (gl_tp (ts := [(gNm 5), (gNm 6)]) ⟨gl_nm, ⟨gl_nm, trivial⟩⟩) (fun _ _ _ _ _ => (pg_tpD rfl (pgs_consD (pg_nmD 5 hN) (pgs_consD (pg_nmD 6 hN) pgs_nilD)))) (fun _ _ _ _ _ => (pts_one (pt_cmpD (cEq hu64) (pe_ixD (pe_nm 6) pe_intD) pe_strD (nomark _)))) (fun _ _ _ _ _ => (pe_nm 5)))
    (pss_consD (ps_whlD 2000 po (PW.pt (pw_andD (pt_cmpD (cNe hu64) (pe_nm 3) (pe_lstD pa_nilD) (nomark _)) (pw_and1D (pt_valD (pe_us h__law_passes hr hG tk rfl (pa_consD (pe_ixD (pe_ixD (pe_nm 2) (pe_ixD (pe_nm 3) (pe_negD pe_intD))) (pe_negD pe_intD)) pa_nilD)))))) (pss_consD (ps_expD (pe_o0D ow_pop (pe_nm 3)))
    pss_nilD))
    (pss_consD (ps_setD (i := 4) rfl hN rfl (by first | exact .inl rfl | exact .inr rfl) (pe_ifD (pt_cmpD (cNe hu64) (pe_nm 3) (pe_lstD pa_nilD) (nomark _)) (pe_slD (pe_nm 2) (po_soD (pe_add4 (pe_ixD (pe_nm 3) (pe_negD pe_intD)) pe_intD)) po_noD) (pe_nm 2)))
    (pss_consD (ps_ifD (pt_cmpD (cNe hu64) (pe_lcD (own := [("_law_one", 6)]) rfl hN (pi_seqD (pe_nm 4)) (show BlkOk ["_law_block_here", "_law_take_here", "_law_way", "_law_groups", "_law_inside", "_law_at", "_law_one"] (defScope s__law_is_tidy) _ _ from blkOk_by (by decide +kernel)) gl_nm (fun _ _ _ _ _ => (pg_nmD 6 hN)) (fun _ _ _ _ _ => (pts_one (PW.pt (pw_andD (pt_cmpD (cEq hu64) (pe_ixD (pe_nm 6) pe_intD) pe_strD (nomark _)) (pw_and1D (pt_cmpD (cEq hu64) (pe_ixD (pe_nm 6) pe_intD) (pe_ixD (pe_nm 1) pe_intD) (nomark _))))))) (fun _ _ _ _ _ => (pe_nm 6))) (pe_lstD pa_nilD) (nomark _)) (pss_consD (ps_retD pe_blD)
    pss_nilD) pss_nilD)
    pss_nilD)))))
    (pss_consD (ps_retD pe_blD)
    pss_nilD))))
abbrev s__law_tower : Stmt := top 19
theorem sc__law_tower : FnScope ["_law_box_here", "_law_world_here", "_law_found", "_law_turn", "_law_form", "_law_hand", "_law_spot", "_law_sides"] ["_law_box_here", "_law_world_here"] (defScope s__law_tower) := ⟨rfl, rfl, rfl, by decide +kernel, rfl, by decide +kernel, by decide +kernel⟩
theorem ok__law_tower (F : FunD K "_law_tower" "_law_tower" (defArgs s__law_tower) (defBody s__law_tower) (defScope s__law_tower) [] [] fA fd) (gl : mg "_law_tower" = some (.ref fA)) (R : Fr K mg) (h__law_take : Has P w K mg base k "_law_take" ["_law_box_here", "_law_many"] 2 F__law_take) (h__law_pick : Has P w K mg base k "_law_pick" ["_law_box_here", "_law_items"] 2 F__law_pick) : Has P w K mg base (k + 1) "_law_tower" ["_law_box_here", "_law_world_here"] 2 F__law_tower :=
  has_of F gl (FunD.bindsN (ps := ["_law_box_here", "_law_world_here"]) F fun _ _ _ _ _ _ us hl => match us, hl with | [_, _], _ => rfl) (fnD (pm := [true, true]) (N := ["_law_box_here", "_law_world_here", "_law_found", "_law_turn", "_law_form", "_law_hand", "_law_spot", "_law_sides"]) (g := (G__law_tower F__law_take F__law_pick)) F sc__law_tower rfl (fun cdv A outer s H E W hr hG tk po => by
      have hN := sc__law_tower.nd
      have hu := hr.un200
      have hu64 := hr.un64
      have hu65 := hr.un65
      exact (pss_consD (ps_setD (i := 2) rfl hN rfl (by first | exact .inl rfl | exact .inr rfl) (pe_tupD (pa_consD (pe_tupD (pa_consD pe_strD (pa_consD (pe_us h__law_pick hr hG tk rfl (pa_consD (pe_nm 0) (pa_consD (pe_ixD (pe_nm 1) pe_intD) pa_nilD))) (pa_consD (pe_us h__law_pick hr hG tk rfl (pa_consD (pe_nm 0) (pa_consD (pe_ixD (pe_nm 1) pe_intD) pa_nilD))) pa_nilD)))) pa_nilD)))
    (pss_consD (ps_forD po rfl (pi_rng1D rfl R.b_range (pe_us h__law_take hr hG tk rfl (pa_consD (pe_nm 0) (pa_consD pe_intD pa_nilD)))) (pg_nmD 3 hN) (pss_consD (ps_par3D (i := 4) (j := 5) (l := 6) (all3 rfl rfl rfl) rfl hN rfl rfl rfl (by decide) (by decide) (by decide) rfl rfl rfl (pe_us h__law_take hr hG tk rfl (pa_consD (pe_nm 0) (pa_consD pe_intD pa_nilD))) (pe_us h__law_pick hr hG tk rfl (pa_consD (pe_nm 0) (pa_consD (pe_ixD (pe_nm 1) pe_intD) pa_nilD))) (pe_us h__law_pick hr hG tk rfl (pa_consD (pe_nm 0) (pa_consD (pe_ixD (pe_nm 1) pe_intD) pa_nilD))) (by rfl))
    (pss_consD (ps_setD (i := 7) rfl hN rfl (by first | exact .inl rfl | exact .inr rfl) (pe_lstD (pa_consD (pe_tupD pa_nilD) (pa_consD (pe_tupD (pa_consD (pe_tupD (pa_consD pe_strD pa_nilD)) pa_nilD)) (pa_consD (pe_tupD pa_nilD) (pa_consD (pe_tupD (pa_consD (pe_tupD (pa_consD pe_strD (pa_consD (pe_nm 6) pa_nilD))) pa_nilD)) pa_nilD))))))
    (pss_consD (ps_setD (i := 2) rfl hN rfl (by first | exact .inl rfl | exact .inr rfl) (pe_add4 (pe_add4 (pe_us h__law_pick hr hG tk rfl (pa_consD (pe_nm 0) (pa_consD (pe_nm 7) pa_nilD))) (pe_nm 2)) (pe_us h__law_pick hr hG tk rfl (pa_consD (pe_nm 0) (pa_consD (pe_nm 7) pa_nilD)))))
    (pss_consD (ps_ifD (pt_cmpD cLt (pe_nm 4) pe_intD (nomark _)) (pss_consD (ps_setD (i := 2) rfl hN rfl (by first | exact .inl rfl | exact .inr rfl) (pe_tupD (pa_consD (pe_tupD (pa_consD pe_strD (pa_consD (pe_nm 5) (pa_consD (pe_nm 6) (pa_consD (pe_nm 2) pa_nilD))))) pa_nilD)))
    pss_nilD) (pss_consD (ps_ifD (pt_cmpD cLt (pe_nm 4) pe_intD (nomark _)) (pss_consD (ps_setD (i := 2) rfl hN rfl (by first | exact .inl rfl | exact .inr rfl) (pe_tupD (pa_consD (pe_tupD (pa_consD pe_strD (pa_consD (pe_nm 2) pa_nilD))) pa_nilD)))
    pss_nilD) (pss_consD (ps_setD (i := 2) rfl hN rfl (by first | exact .inl rfl | exact .inr rfl) (pe_tupD (pa_consD (pe_tupD (pa_consD pe_strD (pa_consD (pe_nm 2) pa_nilD))) pa_nilD)))
    pss_nilD))
    pss_nilD))
    pss_nilD)))))
    (pss_consD (ps_retD (pe_nm 2))
    pss_nilD)))))
abbrev s__law_near : Stmt := top 20
theorem sc__law_near : FnScope ["_law_box_here", "_law_world_here", "_law_block_here", "_law_inner", "_law_at", "_law_one", "_law_changed"] ["_law_box_here", "_law_world_here", "_law_block_here"] (defScope s__law_near) := ⟨rfl, rfl, rfl, by decide +kernel, rfl, by decide +kernel, by decide +kernel⟩
theorem ok__law_near (F : FunD K "_law_near" "_law_near" (defArgs s__law_near) (defBody s__law_near) (defScope s__law_near) [] [] fA fd) (gl : mg "_law_near" = some (.ref fA)) (R : Fr K mg) (h__law_pick : Has P w K mg base k "_law_pick" ["_law_box_here", "_law_items"] 2 F__law_pick) (h__law_take : Has P w K mg base k "_law_take" ["_law_box_here", "_law_many"] 2 F__law_take) : ∀ n : Nat, Has P w K mg base (k + n) "_law_near" ["_law_box_here", "_law_world_here", "_law_block_here"] 3 (F__law_near n)
  | 0 => has_of F gl (FunD.bindsN (ps := ["_law_box_here", "_law_world_here", "_law_block_here"]) F fun _ _ _ _ _ _ us hl => match us, hl with | [_, _, _], _ => rfl) fn_zero
  | n + 1 => by
    have h__law_near := ok__law_near F gl R h__law_pick h__law_take n
    have h__law_pick := h__law_pick.mono (Nat.le_add_right k n)
    have h__law_take := h__law_take.mono (Nat.le_add_right k n)
    exact has_of F gl (FunD.bindsN (ps := ["_law_box_here", "_law_world_here", "_law_block_here"]) F fun _ _ _ _ _ _ us hl => match us, hl with | [_, _, _], _ => rfl) (fnD (k := k + n) (pm := [true, true, true]) (N := ["_law_box_here", "_law_world_here", "_law_block_here", "_law_inner", "_law_at", "_law_one", "_law_changed"]) (g := (G__law_near F__law_pick F__law_take (F__law_near n))) F sc__law_near rfl (fun cdv A outer s H E W hr hG tk po => by
      have hN := sc__law_near.nd
      have hu := hr.un200
      have hu64 := hr.un64
      have hu65 := hr.un65
      exact (pss_consD (ps_setLcD (i := 3) (hp := rfl) (hy := rfl) (hyl := rfl) (hsw := sw_true rfl rfl rfl (by decide +kernel)) (hc := rfl) (hN := hN) (own := [("_law_at", 4), ("_law_one", 5)]) (pi_enumAD rfl R.b_enumerate (pe_nm 2)) (show BlkOk ["_law_box_here", "_law_world_here", "_law_block_here", "_law_inner", "_law_at", "_law_one", "_law_changed"] (defScope s__law_near) _ _ from blkOk_by (by decide +kernel)) (gl_tp (ts := [(gNm 4), (gNm 5)]) ⟨gl_nm, ⟨gl_nm, trivial⟩⟩) (fun _ _ _ _ _ => (pg_tpD rfl (pgs_consD (pg_nmD 4 hN) (pgs_consD (pg_nmD 5 hN) pgs_nilD)))) (fun _ _ _ _ _ => (pts_one (pt_cmpD (cIn hu65) (pe_ixD (pe_nm 5) pe_intD) (pe_tupD (pa_consD pe_strD (pa_consD pe_strD (pa_consD pe_strD pa_nilD)))) (by with_unfolding_all rfl)))) (fun _ _ _ _ _ => (pe_nm 4)))
    (pss_consD (ps_ifD (PW.pt (pw_andD (pt_cmpD (cNe hu64) (pe_nm 3) (pe_lstD pa_nilD) (nomark _)) (pw_and1D (pt_cmpD cGt (pe_us h__law_take hr hG tk rfl (pa_consD (pe_nm 0) (pa_consD pe_intD pa_nilD))) pe_intD (nomark _))))) (pss_consD (ps_setD (i := 4) rfl hN rfl (by first | exact .inl rfl | exact .inr rfl) (pe_us h__law_pick hr hG tk rfl (pa_consD (pe_nm 0) (pa_consD (pe_nm 3) pa_nilD))))
    (pss_consD (ps_setD (i := 6) rfl hN rfl (by first | exact .inl rfl | exact .inr rfl) (pe_us h__law_near hr hG tk rfl (pa_consD (pe_nm 0) (pa_consD (pe_nm 1) (pa_consD (pe_ixD (pe_ixD (pe_nm 2) (pe_nm 4)) (pe_negD pe_intD)) pa_nilD)))))
    (pss_consD (ps_retD (pe_add4 (pe_add4 (pe_slD (pe_nm 2) po_noD (po_soD (pe_nm 4))) (pe_tupD (pa_consD (pe_add4 (pe_slD (pe_ixD (pe_nm 2) (pe_nm 4)) po_noD (po_soD (pe_negD pe_intD))) (pe_tupD (pa_consD (pe_nm 6) pa_nilD))) pa_nilD))) (pe_slD (pe_nm 2) (po_soD (pe_add4 (pe_nm 4) pe_intD)) po_noD)))
    pss_nilD))) pss_nilD)
    (pss_consD (ps_par2D (i := 4) (j := 5) (all2 rfl rfl) rfl hN rfl rfl (by decide) rfl rfl (pe_us h__law_take hr hG tk rfl (pa_consD (pe_nm 0) (pa_consD (pe_add4 (pe_cbD cf_len rfl R.b_len b_len (pa_consD (pe_nm 2) pa_nilD)) pe_intD) pa_nilD))) (pe_tupD (pa_consD pe_strD (pa_consD (pe_us h__law_pick hr hG tk rfl (pa_consD (pe_nm 0) (pa_consD (pe_ixD (pe_nm 1) pe_intD) pa_nilD))) (pa_consD (pe_us h__law_pick hr hG tk rfl (pa_consD (pe_nm 0) (pa_consD (pe_ixD (pe_nm 1) pe_intD) pa_nilD))) pa_nilD)))) (by rfl))
    (pss_consD (ps_retD (pe_add4 (pe_add4 (pe_slD (pe_nm 2) po_noD (po_soD (pe_nm 4))) (pe_ixD (pe_lstD (pa_consD (pe_tupD (pa_consD (pe_tupD (pa_consD pe_strD pa_nilD)) pa_nilD)) (pa_consD (pe_tupD (pa_consD (pe_nm 5) pa_nilD)) (pa_consD (pe_tupD pa_nilD) pa_nilD)))) (pe_us h__law_take hr hG tk rfl (pa_consD (pe_nm 0) (pa_consD pe_intD pa_nilD))))) (pe_slD (pe_nm 2) (po_soD (pe_add4 (pe_nm 4) (pe_us h__law_take hr hG tk rfl (pa_consD (pe_nm 0) (pa_consD pe_intD pa_nilD))))) po_noD)))
    pss_nilD))))))
abbrev s_law : Stmt := top 21
theorem sc_law : FnScope ["_law_script", "_law_k", "_law_box_here", "_law_world_here", "_law_asked", "_law_turn", "_law_block_here", "_law_tower_here"] ["_law_script"] (defScope s_law) := ⟨rfl, rfl, rfl, by decide +kernel, rfl, by decide +kernel, by decide +kernel⟩
theorem okG_law (F : FunD K "law" "law" (defArgs s_law) (defBody s_law) (defScope s_law) [] [] fA fd) (gl : mg "law" = some (.ref fA)) (R : Fr K mg) (h__law_box : Has P w K mg base k "_law_box" ["_law_script", "_law_k"] 2 F__law_box) (h__law_world : Has P w K mg base k "_law_world" ["_law_box_here", "_law_most_hands", "_law_most_slots"] 3 F__law_world) (h__law_block : Has P w K mg base k "_law_block" ["_law_box_here", "_law_world_here", "_law_deep", "_law_room"] 4 (F__law_block 24)) (h__law_tower : Has P w K mg base k "_law_tower" ["_law_box_here", "_law_world_here"] 2 F__law_tower) (h__law_mixed : Has P w K mg base k "_law_mixed" ["_law_box_here", "_law_items"] 2 F__law_mixed) (h__law_near : Has P w K mg base k "_law_near" ["_law_box_here", "_law_world_here", "_law_block_here"] 3 (F__law_near 24)) (h__law_pick : Has P w K mg base k "_law_pick" ["_law_box_here", "_law_items"] 2 F__law_pick) (h_is_tidy : Has P w K mg base k "is_tidy" ["program"] 1 F_is_tidy) (h__law_is_tidy : Has P w K mg base k "_law_is_tidy" ["_law_block_here"] 1 F__law_is_tidy) (h__law_take : Has P w K mg base k "_law_take" ["_law_box_here", "_law_many"] 2 F__law_take) : FnG P w K mg base (k + 1) fA fd ["_law_script"] (spD K mg 1 F_law) :=
  fnD (pm := [true]) (N := ["_law_script", "_law_k", "_law_box_here", "_law_world_here", "_law_asked", "_law_turn", "_law_block_here", "_law_tower_here"]) (g := (G_law F__law_box F__law_world (F__law_block 24) F__law_tower F__law_mixed (F__law_near 24) F__law_pick F_is_tidy F__law_is_tidy F__law_take)) F sc_law rfl (fun cdv A outer s H E W hr hG tk po => by
      have hN := sc_law.nd
      have hu := hr.un200
      have hu64 := hr.un64
      have hu65 := hr.un65
      exact (pss_consD (ps_forD po rfl (pi_rng1D rfl R.b_range (pe_cbD (cf_max2 rfl) rfl R.b_max b_max (pa_consD pe_intD (pa_consD (pe_cbD (cf_min2 rfl) rfl R.b_min b_min (pa_consD pe_intD (pa_consD (pe_cbD cf_len rfl R.b_len b_len (pa_consD (pe_nm 0) pa_nilD)) pa_nilD))) pa_nilD)))) (pg_nmD 1 hN) (pss_consD (ps_setD (i := 2) rfl hN rfl (by first | exact .inl rfl | exact .inr rfl) (pe_us h__law_box hr hG tk rfl (pa_consD (pe_nm 0) (pa_consD (pe_nm 1) pa_nilD))))
    (pss_consD (ps_setD (i := 3) rfl hN rfl (by first | exact .inl rfl | exact .inr rfl) (pe_us h__law_world hr hG tk rfl (pa_consD (pe_nm 2) (pa_consD pe_intD (pa_consD pe_intD pa_nilD)))))
    (pss_consD (ps_setD (i := 4) rfl hN rfl (by first | exact .inl rfl | exact .inr rfl) (pe_lstD (pa_consD (pe_tupD pa_nilD) (pa_consD (pe_us h__law_block hr hG tk rfl (pa_consD (pe_nm 2) (pa_consD (pe_nm 3) (pa_consD pe_intD (pa_consD pe_intD pa_nilD))))) pa_nilD))))
    (pss_consD (ps_expD (pe_oD ow_append (pe_nm 4) (pa_consD (pe_us h__law_block hr hG tk rfl (pa_consD (pe_nm 2) (pa_consD (pe_nm 3) (pa_consD pe_intD (pa_consD pe_intD pa_nilD))))) pa_nilD)))
    (pss_consD (ps_forD po rfl (pi_rng1D rfl R.b_range pe_intD) (pg_nmD 5 hN) (pss_consD (ps_setD (i := 7) rfl hN rfl (by first | exact .inl rfl | exact .inr rfl) (pe_us h__law_tower hr hG tk rfl (pa_consD (pe_nm 2) (pa_consD (pe_nm 3) pa_nilD))))
    (pss_consD (ps_expD (pe_oD ow_append (pe_nm 4) (pa_consD (pe_add4 (pe_nm 7) (pe_mulD (pe_us h__law_tower hr hG tk rfl (pa_consD (pe_nm 2) (pa_consD (pe_nm 3) pa_nilD))) (pe_us h__law_take hr hG tk rfl (pa_consD (pe_nm 2) (pa_consD pe_intD pa_nilD))))) pa_nilD)))
    (pss_consD (ps_expD (pe_oD ow_append (pe_nm 4) (pa_consD (pe_us h__law_near hr hG tk rfl (pa_consD (pe_nm 2) (pa_consD (pe_nm 3) (pa_consD (pe_us h__law_pick hr hG tk rfl (pa_consD (pe_nm 2) (pa_consD (pe_nm 4) pa_nilD))) pa_nilD)))) pa_nilD)))
    pss_nilD))))
    (pss_consD (ps_forD po rfl (pi_seqD (pe_add4 (pe_us h__law_mixed hr hG tk rfl (pa_consD (pe_nm 2) (pa_consD (pe_nm 4) pa_nilD))) (pe_nm 4))) (pg_nmD 6 hN) (pss_consD (ps_ifD (pt_cmpD (cNe hu64) (pe_cbD (cf_repr hG hu) rfl R.b_repr b_repr (pa_consD (pe_us h_is_tidy hr hG tk rfl (pa_consD (pe_nm 6) pa_nilD)) pa_nilD)) (pe_cbD (cf_repr hG hu) rfl R.b_repr b_repr (pa_consD (pe_us h__law_is_tidy hr hG tk rfl (pa_consD (pe_nm 6) pa_nilD)) pa_nilD)) (nomark _)) (pss_consD (ps_retD pe_blD)
    pss_nilD) pss_nilD)
    pss_nilD))
    pss_nilD)))))))
    (pss_consD (ps_retD pe_blD)
    pss_nilD)))
end
end Dn.k49
end

section
set_option Elab.async false
set_option linter.all false
set_option maxRecDepth 100000
set_option maxHeartbeats 4000000
namespace Dn.k49
open PySem PySem.Spec L2 Dn
/-! what is drawn -/
def bx (a b c : Int) : S := .o (.lst [.int a, .int b, .int c])
section
variable {a b c m : Int} {Q : R → List S → Prop} {E : Exn → List S → Prop} {ds : List D}
theorem smallI_of {i : Int} (h0 : -18446744073709551616 < i) (h1 : i < 18446744073709551616) : smallI i = true := decide_eq_true ⟨h0, h1⟩
theorem take_w (hm : 0 < m) (hm2 : m < 1073741824) (h : ∀ i a' b' c', 0 ≤ i → i < m → Q (.d (.int i)) [bx a' b' c', .d (.int m)]) : wF F__law_take [bx a b c, .d (.int m)] Q E := by
  unfold F__law_take G__law_take bx
  rw [wF_fn]
  refine ⟨rfl, ?_⟩
  simp [atI_nn]
  have p1 : ∀ x : Int, 0 ≤ x % m ∧ x % m < m := fun x => ⟨Int.emod_nonneg _ (by omega), Int.emod_lt_of_pos _ hm⟩
  by_cases ha : 0 < a
  · rw [if_pos ha]
    exact ⟨hm, ⟨hm, hm2⟩, h _ _ _ _ (p1 a).1 (p1 a).2⟩
  · rw [if_neg ha]
    exact ⟨.inl rfl, .inr rfl, .inr rfl, .inr rfl, hm, h _ _ _ _ (p1 _).1 (p1 _).2⟩
theorem at_of {i : Int} (h0 : 0 ≤ i) (h1 : i < ds.length) : ∃ x ∈ ds, atI ds i = some x := by
  obtain ⟨k, rfl⟩ := Int.eq_ofNat_of_zero_le h0
  have hk : k < ds.length := by omega
  exact ⟨ds[k], List.getElem_mem hk, by rw [atI_nn, List.getElem?_eq_getElem hk]⟩
theorem pick_l (h0 : ds ≠ []) (hl : ds.length < 1073741824) (h : ∀ x ∈ ds, ∀ a' b' c', Q (.d x) [bx a' b' c', .d (.lst ds)]) : wF F__law_pick [bx a b c, .d (.lst ds)] Q E := by
  have hp := List.length_pos_iff.mpr h0
  unfold F__law_pick G__law_pick
  rw [wF_fn]
  refine ⟨rfl, ?_⟩
  simp [bx]
  refine take_w (m := (ds.length : Int)) (by omega) (by omega) fun i a' b' c' i0 i1 => ?_
  obtain ⟨x, hx, e⟩ := at_of i0 i1
  simp [bx, e]
  exact h x hx a' b' c'
theorem pick_o (h0 : ds ≠ []) (hl : ds.length < 1073741824) (h : ∀ x ∈ ds, ∀ a' b' c', Q (.d x) [bx a' b' c', .o (.lst ds)]) : wF F__law_pick [bx a b c, .o (.lst ds)] Q E := by
  have hp := List.length_pos_iff.mpr h0
  unfold F__law_pick G__law_pick
  rw [wF_fn]
  refine ⟨rfl, ?_⟩
  simp [bx]
  refine take_w (m := (ds.length : Int)) (by omega) (by omega) fun i a' b' c' i0 i1 => ?_
  obtain ⟨x, hx, e⟩ := at_of i0 i1
  simp [bx, e]
  exact h x hx a' b' c'
theorem era_perm {α : Type} : ∀ (L : List α) (k : Nat) (hk : k < L.length), ([L[k]] ++ L.eraseIdx k).Perm L
  | [], _, hk => absurd hk (by simp)
  | x :: L, 0, _ => List.Perm.refl _
  | x :: L, k + 1, hk => by
    have ih := era_perm L k (by simpa using hk)
    simp only [List.getElem_cons_succ, List.eraseIdx_cons_succ]
    exact (List.Perm.swap x _ _).trans (ih.cons x)
def MixI (s1 : S) (ds : List D) (r : List D) (ρ : Env) : Prop := ∃ a b c L G t, ρ = [some (bx a b c), some s1, some (.o (.lst L)), some (.o (.lst G)), t] ∧ L.length = r.length ∧ (G ++ L).Perm ds
theorem mixed_w {s1 : S} (hs : s1 = .d (.lst ds) ∨ s1 = .o (.lst ds)) (hl : ds.length < 1000000) (h : ∀ ys a' b' c', ys.Perm ds → Q (.d (.lst ys)) [bx a' b' c', s1]) : wF F__law_mixed [bx a b c, s1] Q E := by
  unfold F__law_mixed G__law_mixed
  rw [wF_fn]
  refine ⟨rfl, ?_⟩
  have st : ∃ L0, wS (forL (gNm 4)
      (sSeq (sExp (mO (xVar 3) [mO (xVar 2) [dCall F__law_take [xVar 0, oN [xVar 2] kLen] []] oPop] oAppend)) sSkip) (rng 0 ds.length)) [some (bx a b c), some s1, some (.o (.lst L0)), some (.o (.lst [])), none] (fun e ρ =>
      wNx e ρ (fun ρ => wS (sSeq (sRet (xVar 3)) sSkip) ρ fun e ρ => wR [true, true] [bx a b c, s1] e ρ Q E) fun e ρ => wR [true, true] [bx a b c, s1] e ρ Q E) ∧ L0 = ds := by
    refine ⟨ds, ?_, rfl⟩
    refine wS.forI (MixI s1 ds) ⟨a, b, c, ds, [], none, rfl, by simp [rng], by simp⟩ ?_ ?_
    · rintro ρ ⟨a, b, c, L, G, t, rfl, hL, hp⟩
      have : L = [] := List.eq_nil_of_length_eq_zero (by simpa using hL)
      subst this
      simp
      exact h G a b c (by simpa using hp)
    · rintro x r ρ ⟨a, b, c, L, G, t, rfl, hL, hp⟩
      have hlen := hp.length_eq
      simp at hL hlen
      simp [bx]
      refine take_w (m := (L.length : Int)) (by omega) (by omega) fun i a' b' c' i0 i1 => ?_
      obtain ⟨k, rfl⟩ := Int.eq_ofNat_of_zero_le i0
      have hk : k < L.length := by omega
      simp [bx]
      rw [o_popI rfl hk (by omega)]
      simp
      refine ⟨by rw [sizeLine_eq]; omega, a', b', c', L.eraseIdx k, G ++ [L[k]], some (.d x), rfl, ?_, ?_⟩
      · rw [List.length_eraseIdx_of_lt hk]
        omega
      · refine List.Perm.trans ?_ hp
        rw [List.append_assoc]
        refine List.Perm.append_left _ ?_
        exact era_perm L k hk
  obtain ⟨L0, st, rfl⟩ := st
  rcases hs with rfl | rfl
  · simp [bx] at st ⊢
    exact ⟨by omega, st⟩
  · simp [bx] at st ⊢
    exact ⟨by omega, st⟩
end
end Dn.k49
end

section
set_option Elab.async false
set_option linter.all false
set_option maxRecDepth 100000
set_option maxHeartbeats 4000000
namespace Dn.k49
open PySem PySem.Spec L2 Dn
/-! names -/
section
variable {a b c m : Int} {Q : R → List S → Prop} {E : Exn → List S → Prop} {ds : List D}
theorem abc_ok : Nm 26 "abcdefghijklmnopqrstuvwxyz" := ⟨by decide +kernel, by decide +kernel⟩
theorem letter {i : Int} (h0 : 0 ≤ i) (h1 : i < 26) : ∃ n, atI (Str.cps "abcdefghijklmnopqrstuvwxyz").toList i = some n ∧ Nm 1 ⟨#[n]⟩ := by
  obtain ⟨x, hx, e⟩ := at_ex (xs := (Str.cps "abcdefghijklmnopqrstuvwxyz").toList) h0 (by
    have : (Str.cps "abcdefghijklmnopqrstuvwxyz").toList.length = 26 := by decide +kernel
    omega)
  exact ⟨x, e, abc_ok.chr hx⟩
def okL (n : Nat) (zs : List Str) : Bool := zs.all fun z => PyData.strOk z && decide (z.length ≤ n)
theorem okL_nm {n : Nat} {zs : List Str} (h : okL n zs = true) : ∀ z ∈ zs, Nm n z := by
  intro z hz
  have h := List.all_eq_true.mp h z hz
  rw [Bool.and_eq_true] at h
  exact ⟨h.1, of_decide_eq_true h.2⟩
theorem wa_len : (Txt.split "lay lift share empty hold group take pass try stop" " ").length = 10 := by decide +kernel
theorem wb_len : (Txt.split "call slots undo found up trail left fate slot" " ").length = 9 := by decide +kernel
theorem wa_ok : okL 20 (Txt.split "lay lift share empty hold group take pass try stop" " ") = true := by decide +kernel
theorem wb_ok : okL 20 (Txt.split "call slots undo found up trail left fate slot" " ") = true := by decide +kernel
/-- a list of names -/
def Nms (k : Nat) (ds : List D) : Prop := ds ≠ [] ∧ ds.length ≤ k ∧ ∀ d ∈ ds, NmD 40 d
theorem Nms.perm {k : Nat} {xs ys : List D} (h : Nms k xs) (p : ys.Perm xs) : Nms k ys :=
  ⟨fun z => h.1 (by subst z; exact p.symm.eq_nil), by rw [p.length_eq]; exact h.2.1, fun d hd => h.2.2 d (p.mem_iff.mp hd)⟩
theorem Nms.cut {k : Nat} {L : List D} {fi : Nat} (hk : 0 < k) (hL : fi + k ≤ L.length) (h : ∀ d ∈ L, NmD 40 d) : Nms k (Dn.cut L (some (fi : Int)) (some ((fi : Int) + (k : Int)))) := by
  have e : Dn.cut L (some (fi : Int)) (some ((fi : Int) + (k : Int))) = (L.drop fi).take k := by
    rw [← Int.natCast_add, cut_mid, show min fi L.length = fi by omega, show min (fi + k) L.length - fi = k by omega]
  have el : ((L.drop fi).take k).length = k := by
    rw [List.length_take, List.length_drop]
    omega
  rw [e]
  refine ⟨fun z => ?_, by omega, fun d hd => h d (List.mem_of_mem_drop (List.mem_of_mem_take hd))⟩
  rw [z] at el
  simp at el
  omega
theorem names_w {k : Nat} (hk0 : 0 < k) (hk : k ≤ 6) (h : ∀ ys a' b' c', Nms k ys → Q (.d (.lst ys)) [bx a' b' c', .d (.int (k : Int))]) : wF F__law_names [bx a b c, .d (.int (k : Int))] Q E := by
  unfold F__law_names G__law_names
  rw [wF_fn]
  refine ⟨rfl, ?_⟩
  simp [bx]
  refine take_w (m := 5) (by omega) (by omega) fun form a b c f0 f1 => ?_
  have nd : ([(1 : Nat)] : List Nat).Nodup := by simp
  simp [bx]
  by_cases hf : form = 0
  · rw [if_pos hf]
    refine ⟨⟨by decide +kernel, by decide +kernel⟩, ⟨by decide +kernel, by decide +kernel⟩, ?_⟩
    have la := wa_len
    have lb := wb_len
    have oa := okL_nm wa_ok
    have ob := okL_nm wb_ok
    generalize Txt.split "lay lift share empty hold group take pass try stop" " " = A at la oa ⊢
    generalize Txt.split "call slots undo found up trail left fate slot" " " = B at lb ob ⊢
    refine ⟨by rw [sizeLine_eq]; omega, ?_⟩
    refine take_w (m := 19) (by omega) (by omega) fun first a b c g0 g1 => ?_
    obtain ⟨fi, rfl⟩ := Int.eq_ofNat_of_zero_le g0
    simp [bx]
    refine ⟨by rw [sizeLine_eq]; omega, ?_⟩
    refine mixed_w (.inl rfl) ?_ fun ys a b c hp => ?_
    · have := cut_len (List.map D.str A ++ (List.map D.str B ++ (List.map D.str A ++ List.map D.str B))) (some (fi : Int)) (some ((fi : Int) + (k : Int)))
      simp [la, lb] at this
      omega
    simp [bx]
    refine h ys a b c (Nms.perm (Nms.cut hk0 (by simp [la, lb]; omega) fun d hd => ?_) hp)
    simp at hd
    rcases hd with ⟨z, hz, rfl⟩ | ⟨z, hz, rfl⟩ | ⟨z, hz, rfl⟩ | ⟨z, hz, rfl⟩
    · exact ⟨z, rfl, (oa z hz).mono (by omega)⟩
    · exact ⟨z, rfl, (ob z hz).mono (by omega)⟩
    · exact ⟨z, rfl, (oa z hz).mono (by omega)⟩
    · exact ⟨z, rfl, (ob z hz).mono (by omega)⟩
  · rw [if_neg hf]
    refine take_w (m := 5) (by omega) (by omega) fun n a b c n0 n1 => ?_
    simp [bx]
    refine ⟨by omega, ?_⟩
    refine wE.compI (fun r acc ρ => ∃ a b c t, ρ = [some (bx a b c), some (.d (.int (k : Int))), some (.d (.str "abcdefghijklmnopqrstuvwxyz")), some (.d (.int form)), none, none, none, none, none, none, none, t] ∧ acc.length + r.length ≤ 4 ∧ ∀ x ∈ acc, NmD 1 x) ⟨a, b, c, none, rfl, by simp; omega, by simp⟩ ?_ ?_
    · rintro acc ρ ⟨a, b, c, t, rfl, hl, hm⟩
      obtain ⟨ys, rfl, hy⟩ := NmD.list hm
      rw [strsOf_map]
      have hs := len_sum hy
      simp at hl
      simp
      rw [show (Str.ofString "").length = 0 from rfl]
      refine ⟨by omega, ?_⟩
      have hst : Nm 4 (Txt.join "" ys) := (Nm.join hy).mono (by omega)
      generalize Txt.join "" ys = stem at hst ⊢
      have hq1 : Nm 6 "qvkzjx" := ⟨by decide +kernel, by decide +kernel⟩
      have hq2 : Nm 5 "qvkzj" := ⟨by decide +kernel, by decide +kernel⟩
      have sz : ∀ {m : Nat} {z : Str}, Nm m z → m ≤ 1000 → z.length ≤ sizeLine := fun h hm => by
        rw [sizeLine_eq]
        have := h.2
        omega
      -- the end of each form: a list of names, mixed
      have fin : ∀ {a b c : Int} {acc : List D} {s : S} {Q' : R → List S → Prop} {E' : Exn → List S → Prop}, s = .d (.lst acc) ∨ s = .o (.lst acc) → acc.length = k → (∀ x ∈ acc, NmD 40 x) → (∀ ys a b c, Nms k ys → Q' (.d (.lst ys)) [bx a b c, s]) → wF F__law_mixed [bx a b c, s] Q' E' := fun {a b c acc s Q' E'} hs hl hm hq =>
        mixed_w hs (by omega) fun ys a b c hp => hq ys a b c (Nms.perm ⟨fun z => by subst z; simp at hl; omega, by omega, hm⟩ hp)
      by_cases h1 : form = 1
      · rw [if_pos h1, if_pos (by omega)]
        simp [bx]
        refine ⟨by omega, ?_⟩
        refine wE.compI (fun r acc ρ => ∃ t u, ρ = [some (bx a b c), some (.d (.int (k : Int))), some (.d (.str "abcdefghijklmnopqrstuvwxyz")), some (.d (.int form)), some (.d (.str stem)), none, none, none, u, none, none, t] ∧ acc.length + r.length = k ∧ (∀ x ∈ acc, NmD 40 x) ∧ ∀ x ∈ r, ∃ j : Int, x = .int j) ⟨t, none, rfl, by simp, by simp, fun x hx => ?_⟩ ?_ ?_
        · obtain ⟨j, _, rfl⟩ := rng_mem hx
          exact ⟨_, rfl⟩
        · rintro acc ρ ⟨t, u, rfl, hl, hm, _⟩
          simp at hl
          simp [bx]
          refine fin (.inl rfl) hl hm fun ys a b c hp => ?_
          simp [bx]
          exact h ys a b c hp
        · rintro x r acc ρ ⟨t, u, rfl, hl, hm, hr⟩
          obtain ⟨j, rfl⟩ := hr x List.mem_cons_self
          simp at hl
          have g1 := (Nm.cut (lo := none) (hi := some 1) hst).app hq1
          have g2 := Nm.cut (lo := none) (hi := some (j + 1)) g1
          simp
          refine ⟨sz hst (by omega), by have := (Nm.cut (lo := none) (hi := some 1) hst).2; have := hq1.2; rw [sizeLine_eq]; omega, sz g1 (by omega), by rw [sizeLine_eq]; omega, by omega, fun d hd => ?_, fun y hy => hr y (List.mem_cons_of_mem _ hy)⟩
          rcases hd with hd | rfl
          · exact hm d hd
          · exact ⟨_, rfl, g2.mono (by omega)⟩
      · rw [if_neg h1]
        simp [bx]
        refine ⟨sz hst (by omega), ?_⟩
        have hs4 := hst.2
        refine take_w (m := (stem.length : Int) + 1) (by omega) (by omega) fun at_ a b c p0 p1 => ?_
        simp [bx]
        refine take_w (m := 26) (by omega) (by omega) fun first a b c q0 q1 => ?_
        simp [bx]
        have lt : ∀ j : Int, ∃ n, atI (Str.cps "abcdefghijklmnopqrstuvwxyz").toList ((first + 7 * j) % 26) = some n ∧ Nm 1 ⟨#[n]⟩ := fun j => letter (Int.emod_nonneg _ (by omega)) (Int.emod_lt_of_pos _ (by omega))
        by_cases h2 : form = 2
        · rw [if_pos h2]
          refine ⟨by omega, ?_⟩
          refine wE.compI (fun r acc ρ => ∃ t u, ρ = [some (bx a b c), some (.d (.int (k : Int))), some (.d (.str "abcdefghijklmnopqrstuvwxyz")), some (.d (.int form)), some (.d (.str stem)), some (.d (.int at_)), some (.d (.int first)), none, u, none, none, t] ∧ acc.length + r.length = k ∧ (∀ x ∈ acc, NmD 40 x) ∧ ∀ x ∈ r, ∃ j : Int, x = .int j) ⟨t, none, rfl, by simp, by simp, fun x hx => ?_⟩ ?_ ?_
          · obtain ⟨j, _, rfl⟩ := rng_mem hx
            exact ⟨_, rfl⟩
          · rintro acc ρ ⟨t, u, rfl, hl, hm, _⟩
            simp at hl
            simp [bx]
            refine fin (.inl rfl) hl hm fun ys a b c hp => ?_
            simp [bx]
            exact h ys a b c hp
          · rintro x r acc ρ ⟨t, u, rfl, hl, hm, hr⟩
            obtain ⟨j, rfl⟩ := hr x List.mem_cons_self
            simp at hl
            obtain ⟨z, ez, hz⟩ := lt j
            have g1 := hst.app hq2
            have g2 := Nm.cut (lo := none) (hi := some 5) g1
            have g3 := g2.app hz
            simp [ez]
            refine ⟨by have := hq2.2; rw [sizeLine_eq]; omega, sz g1 (by omega), .inl rfl, by decide +kernel, by have := g2.2; have := hz.2; rw [sizeLine_eq]; omega, by rw [sizeLine_eq]; omega, by omega, fun d hd => ?_, fun y hy => hr y (List.mem_cons_of_mem _ hy)⟩
            rcases hd with hd | rfl
            · exact hm d hd
            · exact ⟨_, rfl, g3.mono (by omega)⟩
        · rw [if_neg h2]
          refine ⟨by omega, ?_⟩
          refine wS.forI (fun r ρ => ∃ t u v acc, ρ = [some (bx a b c), some (.d (.int (k : Int))), some (.d (.str "abcdefghijklmnopqrstuvwxyz")), some (.d (.int form)), some (.d (.str stem)), some (.d (.int at_)), some (.d (.int first)), some (.o (.lst acc)), u, none, v, t] ∧ acc.length + r.length = k ∧ (∀ x ∈ acc, NmD 40 x) ∧ ∀ x ∈ r, ∃ j : Int, x = .int j) ⟨t, none, none, [], rfl, by simp, by simp, fun x hx => ?_⟩ ?_ ?_
          · obtain ⟨j, _, rfl⟩ := rng_mem hx
            exact ⟨_, rfl⟩
          · rintro ρ ⟨t, u, v, acc, rfl, hl, hm, _⟩
            simp at hl
            simp [bx]
            refine fin (.inr rfl) hl hm fun ys a b c hp => ?_
            simp [bx]
            exact h ys a b c hp
          · rintro x r ρ ⟨t, u, v, acc, rfl, hl, hm, hr⟩
            obtain ⟨j, rfl⟩ := hr x List.mem_cons_self
            simp at hl
            obtain ⟨z, ez, hz⟩ := lt j
            have hj : 0 ≤ j % 2 ∧ j % 2 < 2 := ⟨Int.emod_nonneg _ (by omega), Int.emod_lt_of_pos _ (by omega)⟩
            have g1 := (Nm.cut (lo := none) (hi := some at_) hst).app hz
            have g2 := g1.app (Nm.cut (lo := some at_) (hi := none) hst)
            have g3 := g2.app ((hz.rep (j % 2).toNat).mono (show 1 * (j % 2).toNat ≤ 1 by omega))
            have a1 := (Nm.cut (lo := none) (hi := some at_) hst).2
            have a2 := (Nm.cut (lo := some at_) (hi := none) hst).2
            have a3 := hz.2
            have a4 := g1.2
            have a5 := g2.2
            have a6 : (repS ⟨#[z]⟩ (j % 2).toNat).length ≤ 1 := Nat.le_trans (hz.rep (j % 2).toNat).2 (by omega)
            simp [ez]
            have a7 : (⟨#[z]⟩ : Str).length * (j % 2).toNat ≤ 1 := by
              have : (⟨#[z]⟩ : Str).length = 1 := rfl
              rw [this]
              omega
            rw [sizeLine_eq]
            refine ⟨.inl rfl, by decide +kernel, by omega, by omega, by omega, by omega, ⟨by omega, by omega, by omega, by omega⟩, by omega, by omega, t, _, _, _, ⟨rfl, rfl, rfl, rfl⟩, by simp; omega, fun d hd => ?_, fun y hy => hr y (List.mem_cons_of_mem _ hy)⟩
            rcases List.mem_append.mp hd with hd | hd
            · exact hm d hd
            · rw [List.mem_singleton.mp hd]
              exact ⟨_, rfl, g3.mono (by omega)⟩
    · rintro x r acc ρ ⟨a, b, c, t, rfl, hl, hm⟩
      simp [bx]
      refine take_w (m := 26) (by omega) (by omega) fun i a b c i0 i1 => ?_
      obtain ⟨z, ez, hz⟩ := letter i0 i1
      simp [bx, ez]
      simp at hl
      refine ⟨by decide +kernel, by rw [sizeLine_eq]; omega, by omega, fun d hd => ?_⟩
      rcases hd with hd | rfl
      · exact hm d hd
      · exact ⟨_, rfl, hz⟩
end
end Dn.k49
end

section
set_option Elab.async false
set_option linter.all false
set_option maxRecDepth 100000
set_option maxHeartbeats 4000000
namespace Dn.k49
open PySem PySem.Spec L2 Dn
/-! the world; statements -/
section
variable {a b c m : Int} {Q : R → List S → Prop} {E : Exn → List S → Prop} {ds : List D}
theorem names_i {i : Int} (h0 : 0 ≤ i) (h1 : i < 6) (h : ∀ ys a' b' c', Nms 6 ys → Q (.d (.lst ys)) [bx a' b' c', .d (.int (1 + i))]) : wF F__law_names [bx a b c, .d (.int (1 + i))] Q E := by
  obtain ⟨k, rfl⟩ := Int.eq_ofNat_of_zero_le h0
  have e : (1 : Int) + (k : Int) = ((1 + k : Nat) : Int) := by omega
  rw [e] at h ⊢
  exact names_w (by omega) (by omega) fun ys a b c hn => h ys a b c ⟨hn.1, Nat.le_trans hn.2.1 (by omega), hn.2.2⟩
def WorldD (x : D) : Prop := ∃ hs ss, x = .tup [.lst hs, .lst ss] ∧ Nms 6 hs ∧ Nms 6 ss
theorem world_w (h : ∀ x a' b' c', WorldD x → Q (.d x) [bx a' b' c', .d (.int 3), .d (.int 3)]) : wF F__law_world [bx a b c, .d (.int 3), .d (.int 3)] Q E := by
  unfold F__law_world G__law_world
  rw [wF_fn]
  refine ⟨rfl, ?_⟩
  simp [bx]
  refine take_w (m := 3) (by omega) (by omega) fun i a b c i0 i1 => ?_
  simp [bx]
  refine names_i i0 (by omega) fun hs a b c hn => ?_
  simp [bx]
  refine take_w (m := 4) (by omega) (by omega) fun j a b c j0 j1 => ?_
  simp [bx]
  by_cases hj : j = 0
  · rw [if_pos hj]
    have hl := List.length_pos_iff.mpr hn.1
    have hl2 := hn.2.1
    refine take_w (m := if (hs.length : Int) < 3 then (hs.length : Int) else 3) (by split <;> omega) (by split <;> omega) fun l a b c l0 l1 => ?_
    obtain ⟨l, rfl⟩ := Int.eq_ofNat_of_zero_le l0
    simp [bx]
    refine h _ _ _ _ ⟨hs, _, rfl, hn, ?_⟩
    have e : (1 : Int) + (l : Int) = ((1 + l : Nat) : Int) := by omega
    rw [e, cut_to]
    refine ⟨fun z => ?_, ?_, fun d hd => hn.2.2 d (List.mem_of_mem_take hd)⟩
    · have := congrArg List.length z
      rw [List.length_take, List.length_nil] at this
      omega
    · rw [List.length_take]
      omega
  · rw [if_neg hj]
    refine take_w (m := 3) (by omega) (by omega) fun i a b c i0 i1 => ?_
    simp [bx]
    refine names_i i0 (by omega) fun ss a b c hn2 => ?_
    simp [bx]
    exact h _ _ _ _ ⟨hs, ss, rfl, hn, hn2⟩
end
/-! statements -/
inductive St where
  | hold (h s : Str) (b : List St) | group (b : List St) | tryS (b : List St) | take (h s : Str) | pass | stop | call (s : Str)
mutual
def enc : St → D
  | .hold h s b => .tup [.str "hold", .str h, .str s, .tup (encs b)]
  | .group b => .tup [.str "group", .tup (encs b)]
  | .tryS b => .tup [.str "try", .tup (encs b)]
  | .take h s => .tup [.str "take", .str h, .str s]
  | .pass => .tup [.str "pass"]
  | .stop => .tup [.str "stop"]
  | .call s => .tup [.str "call", .str s]
def encs : List St → List D
  | [] => []
  | x :: xs => enc x :: encs xs
end
def nmB (z : Str) : Bool := PyData.strOk z && decide (z.length ≤ 40)
mutual
/-- nested at most n deep, names of at most 40 signs -/
def ok : Nat → St → Bool
  | 0, _ => false
  | n + 1, .hold h s b => nmB h && (nmB s && (decide (0 < n) && oks n b))
  | n + 1, .group b => decide (0 < n) && oks n b
  | n + 1, .tryS b => decide (0 < n) && oks n b
  | n + 1, .take h s => nmB h && nmB s
  | n + 1, .pass => true
  | n + 1, .stop => true
  | n + 1, .call s => nmB s
def oks : Nat → List St → Bool
  | _, [] => true
  | n, x :: xs => ok n x && oks n xs
end
theorem encs_map : ∀ xs : List St, encs xs = xs.map enc
  | [] => rfl
  | x :: xs => by
    show enc x :: encs xs = _
    rw [encs_map xs]
    rfl
theorem oks_all {n : Nat} : ∀ {xs : List St}, oks n xs = xs.all (ok n)
  | [] => rfl
  | x :: xs => by
    show (ok n x && oks n xs) = _
    rw [oks_all]
    rfl
@[simp] theorem tg_hold_group : (Str.ofString "hold" = Str.ofString "group") = False := by decide +kernel
@[simp] theorem tg_hold_try : (Str.ofString "hold" = Str.ofString "try") = False := by decide +kernel
@[simp] theorem tg_hold_take : (Str.ofString "hold" = Str.ofString "take") = False := by decide +kernel
@[simp] theorem tg_hold_pass : (Str.ofString "hold" = Str.ofString "pass") = False := by decide +kernel
@[simp] theorem tg_hold_stop : (Str.ofString "hold" = Str.ofString "stop") = False := by decide +kernel
@[simp] theorem tg_hold_call : (Str.ofString "hold" = Str.ofString "call") = False := by decide +kernel
@[simp] theorem tg_group_hold : (Str.ofString "group" = Str.ofString "hold") = False := by decide +kernel
@[simp] theorem tg_group_try : (Str.ofString "group" = Str.ofString "try") = False := by decide +kernel
@[simp] theorem tg_group_take : (Str.ofString "group" = Str.ofString "take") = False := by decide +kernel
@[simp] theorem tg_group_pass : (Str.ofString "group" = Str.ofString "pass") = False := by decide +kernel
@[simp] theorem tg_group_stop : (Str.ofString "group" = Str.ofString "stop") = False := by decide +kernel
@[simp] theorem tg_group_call : (Str.ofString "group" = Str.ofString "call") = False := by decide +kernel
@[simp] theorem tg_try_hold : (Str.ofString "try" = Str.ofString "hold") = False := by decide +kernel
@[simp] theorem tg_try_group : (Str.ofString "try" = Str.ofString "group") = False := by decide +kernel
@[simp] theorem tg_try_take : (Str.ofString "try" = Str.ofString "take") = False := by decide +kernel
@[simp] theorem tg_try_pass : (Str.ofString "try" = Str.ofString "pass") = False := by decide +kernel
@[simp] theorem tg_try_stop : (Str.ofString "try" = Str.ofString "stop") = False := by decide +kernel
@[simp] theorem tg_try_call : (Str.ofString "try" = Str.ofString "call") = False := by decide +kernel
@[simp] theorem tg_take_hold : (Str.ofString "take" = Str.ofString "hold") = False := by decide +kernel
@[simp] theorem tg_take_group : (Str.ofString "take" = Str.ofString "group") = False := by decide +kernel
@[simp] theorem tg_take_try : (Str.ofString "take" = Str.ofString "try") = False := by decide +kernel
@[simp] theorem tg_take_pass : (Str.ofString "take" = Str.ofString "pass") = False := by decide +kernel
@[simp] theorem tg_take_stop : (Str.ofString "take" = Str.ofString "stop") = False := by decide +kernel
@[simp] theorem tg_take_call : (Str.ofString "take" = Str.ofString "call") = False := by decide +kernel
@[simp] theorem tg_pass_hold : (Str.ofString "pass" = Str.ofString "hold") = False := by decide +kernel
@[simp] theorem tg_pass_group : (Str.ofString "pass" = Str.ofString "group") = False := by decide +kernel
@[simp] theorem tg_pass_try : (Str.ofString "pass" = Str.ofString "try") = False := by decide +kernel
@[simp] theorem tg_pass_take : (Str.ofString "pass" = Str.ofString "take") = False := by decide +kernel
@[simp] theorem tg_pass_stop : (Str.ofString "pass" = Str.ofString "stop") = False := by decide +kernel
@[simp] theorem tg_pass_call : (Str.ofString "pass" = Str.ofString "call") = False := by decide +kernel
@[simp] theorem tg_stop_hold : (Str.ofString "stop" = Str.ofString "hold") = False := by decide +kernel
@[simp] theorem tg_stop_group : (Str.ofString "stop" = Str.ofString "group") = False := by decide +kernel
@[simp] theorem tg_stop_try : (Str.ofString "stop" = Str.ofString "try") = False := by decide +kernel
@[simp] theorem tg_stop_take : (Str.ofString "stop" = Str.ofString "take") = False := by decide +kernel
@[simp] theorem tg_stop_pass : (Str.ofString "stop" = Str.ofString "pass") = False := by decide +kernel
@[simp] theorem tg_stop_call : (Str.ofString "stop" = Str.ofString "call") = False := by decide +kernel
@[simp] theorem tg_call_hold : (Str.ofString "call" = Str.ofString "hold") = False := by decide +kernel
@[simp] theorem tg_call_group : (Str.ofString "call" = Str.ofString "group") = False := by decide +kernel
@[simp] theorem tg_call_try : (Str.ofString "call" = Str.ofString "try") = False := by decide +kernel
@[simp] theorem tg_call_take : (Str.ofString "call" = Str.ofString "take") = False := by decide +kernel
@[simp] theorem tg_call_pass : (Str.ofString "call" = Str.ofString "pass") = False := by decide +kernel
@[simp] theorem tg_call_stop : (Str.ofString "call" = Str.ofString "stop") = False := by decide +kernel
mutual
def psS : St → Bool
  | .pass => true
  | .hold _ _ b => ps b
  | .tryS b => ps b
  | .group _ => false
  | .take _ _ => false
  | .stop => false
  | .call _ => false
def ps : List St → Bool
  | [] => false
  | x :: xs => psS x || ps xs
end
@[simp] theorem oks_cons {n : Nat} {x : St} {xs : List St} : oks n (x :: xs) = (ok n x && oks n xs) := by rw [oks]
@[simp] theorem ps_cons {x : St} {xs : List St} : ps (x :: xs) = (psS x || ps xs) := by rw [ps]
theorem encs_cons {x : St} {xs : List St} : encs (x :: xs) = enc x :: encs xs := by rw [encs]
section
variable {Q : R → List S → Prop} {E : Exn → List S → Prop}
theorem has_pass_w : ∀ (N n : Nat) {xs : List St} {Q : R → List S → Prop} {E : Exn → List S → Prop}, oks n xs = true → n < N → Q (.d (.bl (ps xs))) [.d (.tup (encs xs))] → wF (F_has_pass N) [.d (.tup (encs xs))] Q E
  | 0, n, xs, Q, E, _, hn, _ => by omega
  | N + 1, n, xs, Q, E, ho, hn, h => by
    rw [F_has_pass, G_has_pass, wF_fn]
    refine ⟨rfl, ?_⟩
    simp
    refine wS.forI (fun r ρ => ∃ ys t, r = encs ys ∧ ρ = [some (.d (.tup (encs xs))), t] ∧ oks n ys = true ∧ ps xs = ps ys) ⟨xs, none, rfl, rfl, ho, rfl⟩ ?_ ?_
    · rintro ρ ⟨ys, t, e, rfl, _, hp⟩
      cases ys with
      | cons y ys => rw [encs_cons] at e; cases e
      | nil =>
        simp
        rw [hp, ps] at h
        exact h
    · rintro x r ρ ⟨ys, t, e, rfl, hy, hp⟩
      cases ys with
      | nil => rw [encs] at e; cases e
      | cons y ys =>
        rw [encs_cons] at e
        cases e
        simp at hy
        have deep : ∀ b : List St, n = 0 ∨ oks (n - 1) b = true → psS y = ps b → 0 < n → ∀ (Q' : R → List S → Prop) E', (ps b = true → Q' (.d (.bl true)) [.d (.tup (encs b))]) → (ps b = false → Q' (.d (.bl false)) [.d (.tup (encs b))]) → wF (F_has_pass N) [.d (.tup (encs b))] Q' E' := fun b hb _ h0 Q' E' q1 q2 => by
          refine has_pass_w N (n - 1) (hb.resolve_left (by omega)) (by omega) ?_
          cases hc : ps b with
          | true => exact q1 hc
          | false => exact q2 hc
        cases y with
        | hold hh s b =>
          cases n with
          | zero => simp [ok] at hy
          | succ n =>
            simp [ok] at hy
            simp [enc]
            refine deep b (.inr hy.1.2.2.2) (by rw [psS]) (by omega) _ _ (fun hc => ?_) fun hc => ?_
            · rw [hp, ps_cons, psS, hc] at h
              simpa using h
            · simp
              exact ⟨ys, rfl, hy.2, by rw [hp, ps_cons, psS, hc, Bool.false_or]⟩
        | tryS b =>
          cases n with
          | zero => simp [ok] at hy
          | succ n =>
            simp [ok] at hy
            simp [enc]
            refine deep b (.inr hy.1.2) (by rw [psS]) (by omega) _ _ (fun hc => ?_) fun hc => ?_
            · rw [hp, ps_cons, psS, hc] at h
              simpa using h
            · simp
              exact ⟨ys, rfl, hy.2, by rw [hp, ps_cons, psS, hc, Bool.false_or]⟩
        | pass =>
          simp [enc]
          rw [hp, ps_cons, psS] at h
          exact h
        | group b => simp [enc]; exact ⟨ys, rfl, hy.2, by rw [hp, ps_cons, psS, Bool.false_or]⟩
        | take h1 h2 => simp [enc]; exact ⟨ys, rfl, hy.2, by rw [hp, ps_cons, psS, Bool.false_or]⟩
        | stop => simp [enc]; exact ⟨ys, rfl, hy.2, by rw [hp, ps_cons, psS, Bool.false_or]⟩
        | call h1 => simp [enc]; exact ⟨ys, rfl, hy.2, by rw [hp, ps_cons, psS, Bool.false_or]⟩
theorem passes_eq : ∀ n, F__law_passes n = F_has_pass n
  | 0 => rfl
  | n + 1 => by
    rw [F__law_passes, F_has_pass, passes_eq n]
    rfl
end
end Dn.k49
end

section
set_option Elab.async false
set_option linter.all false
set_option maxRecDepth 100000
set_option maxHeartbeats 4000000
namespace Dn.k49
open PySem PySem.Spec L2 Dn
mutual
def szS : St → Nat
  | .hold _ _ b => 1 + szs b
  | .group b => 1 + szs b
  | .tryS b => 1 + szs b
  | .take _ _ => 1
  | .pass => 1
  | .stop => 1
  | .call _ => 1
def szs : List St → Nat
  | [] => 0
  | x :: xs => szS x + szs xs
end
@[simp] theorem szs_nil : szs [] = 0 := by rw [szs]
@[simp] theorem szs_cons {x : St} {xs : List St} : szs (x :: xs) = szS x + szs xs := by rw [szs]
theorem szS_pos (x : St) : 1 ≤ szS x := by cases x <;> rw [szS] <;> omega
theorem len_szs : ∀ xs : List St, xs.length ≤ szs xs
  | [] => by simp
  | x :: xs => by
    have := len_szs xs
    have := szS_pos x
    simp
    omega
theorem szs_app : ∀ xs ys : List St, szs (xs ++ ys) = szs xs + szs ys
  | [], ys => by simp
  | x :: xs, ys => by
    rw [List.cons_append, szs_cons, szs_cons, szs_app xs ys]
    omega
theorem encs_len (xs : List St) : (encs xs).length = xs.length := by rw [encs_map, List.length_map]
theorem intsOf_map : ∀ ns : List Int, intsOf (ns.map D.int) = some ns
  | [] => rfl
  | n :: ns => by
    show (intsOf (ns.map D.int)).map (n :: ·) = _
    rw [intsOf_map ns]
    rfl
section
variable {Q : R → List S → Prop} {E : Exn → List S → Prop}
theorem size_w : ∀ (N n : Nat) {xs : List St} {Q : R → List S → Prop} {E : Exn → List S → Prop}, oks n xs = true → n < N → szs xs ≤ 1000000 → Q (.d (.int (szs xs : Nat))) [.d (.tup (encs xs))] → wF (F__law_size N) [.d (.tup (encs xs))] Q E
  | 0, n, xs, Q, E, _, hn, _, _ => by omega
  | N + 1, n, xs, Q, E, ho, hn, hz, h => by
    rw [F__law_size, G__law_size, wF_fn]
    refine ⟨rfl, ?_⟩
    simp
    refine wE.compI (fun r acc ρ => ∃ ys t, r = encs ys ∧ ρ = [some (.d (.tup (encs xs))), t] ∧ oks n ys = true ∧ szs ys ≤ 1000000 ∧ acc.length + ys.length = xs.length ∧ ∃ ns : List Int, acc = ns.map D.int ∧ ns.sum + (szs ys : Nat) = (szs xs : Nat)) ⟨xs, none, rfl, rfl, ho, hz, by simp, [], rfl, by simp⟩ ?_ ?_
    · rintro acc ρ ⟨ys, t, e, rfl, _, _, _, ns, rfl, hs⟩
      cases ys with
      | cons y ys => rw [encs_cons] at e; cases e
      | nil =>
        rw [intsOf_map]
        simp at hs
        simp [hs]
        exact h
    · rintro x r acc ρ ⟨ys, t, e, rfl, hy, hzy, hl, ns, rfl, hs⟩
      have hx := len_szs xs
      cases ys with
      | nil => rw [encs] at e; cases e
      | cons y ys =>
        rw [encs_cons] at e
        cases e
        simp at hy hzy hl hs
        have fin : ∀ k : Int, k = (szS y : Nat) → ns.length < sizeLine ∧ ∃ zs, encs ys = encs zs ∧ oks n zs = true ∧ szs zs ≤ 1000000 ∧ ns.length + 1 + zs.length = xs.length ∧ ∃ ms : List Int, List.map D.int ns ++ [D.int k] = List.map D.int ms ∧ ms.sum + (szs zs : Nat) = (szs xs : Nat) := fun k hk => by
          refine ⟨by rw [sizeLine_eq]; omega, ys, rfl, hy.2, by omega, by omega, ns ++ [k], by simp, ?_⟩
          rw [List.sum_append, hk]
          simp
          omega
        have deep : ∀ b : List St, oks (n - 1) b = true → 0 < n → szs b ≤ szS y → ∀ (Q' : R → List S → Prop) E', Q' (.d (.int (szs b : Nat))) [.d (.tup (encs b))] → wF (F__law_size N) [.d (.tup (encs b))] Q' E' := fun b hb h0 hz Q' E' q => size_w N (n - 1) hb (by omega) (by omega) q
        cases y with
        | hold hh s b =>
          cases n with
          | zero => simp [ok] at hy
          | succ n =>
            simp [ok] at hy
            simp [enc]
            refine deep b hy.1.2.2.2 (by omega) (by rw [szS]; omega) _ _ ?_
            simp
            exact fin _ (by rw [szS]; omega)
        | group b =>
          cases n with
          | zero => simp [ok] at hy
          | succ n =>
            simp [ok] at hy
            simp [enc]
            refine deep b hy.1.2 (by omega) (by rw [szS]; omega) _ _ ?_
            simp
            exact fin _ (by rw [szS]; omega)
        | tryS b =>
          cases n with
          | zero => simp [ok] at hy
          | succ n =>
            simp [ok] at hy
            simp [enc]
            refine deep b hy.1.2 (by omega) (by rw [szS]; omega) _ _ ?_
            simp
            exact fin _ (by rw [szS]; omega)
        | take h1 h2 => simp [enc]; exact fin 1 (by rw [szS]; rfl)
        | pass => simp [enc]; exact fin 1 (by rw [szS]; rfl)
        | stop => simp [enc]; exact fin 1 (by rw [szS]; rfl)
        | call h1 => simp [enc]; exact fin 1 (by rw [szS]; rfl)
end
end Dn.k49
end

section
set_option Elab.async false
set_option linter.all false
set_option maxRecDepth 100000
set_option maxHeartbeats 4000000
namespace Dn.k49
open PySem PySem.Spec L2 Dn
/-! tidy, as the program tells it -/
/-- the take of the slot s, the statements around it, the innermost first -/
def ttR (s : Str) : List St → Bool
  | [] => true
  | .hold _ t _ :: r => if t = s then false else ttR s r
  | .group b :: r => if ps b = true then ttR s r else true
  | .tryS _ :: r => ttR s r
  | .take _ _ :: r => ttR s r
  | .pass :: r => ttR s r
  | .stop :: r => ttR s r
  | .call _ :: r => ttR s r
mutual
def adS (r : List St) : St → Bool
  | .take _ s => ttR s r
  | .hold h s b => ads (.hold h s b :: r) b
  | .group b => ads (.group b :: r) b
  | .tryS b => ads (.tryS b :: r) b
  | .pass => true
  | .stop => true
  | .call _ => true
def ads (r : List St) : List St → Bool
  | [] => true
  | x :: xs => adS r x && ads r xs
end
@[simp] theorem ads_cons {r : List St} {x : St} {xs : List St} : ads r (x :: xs) = (adS r x && ads r xs) := by rw [ads]
@[simp] theorem ads_nil {r : List St} : ads r [] = true := by rw [ads]
theorem oks_rev {n : Nat} {xs : List St} : oks n xs.reverse = oks n xs := by
  rw [oks_all, oks_all, List.all_reverse]
theorem oks_app {n : Nat} {xs ys : List St} : oks n (xs ++ ys) = (oks n xs && oks n ys) := by
  rw [oks_all, oks_all, oks_all, List.all_append]
theorem ok_mono1 : ∀ (n : Nat) (x : St), ok n x = true → ok (n + 1) x = true
  | 0, x, h => by cases x <;> simp [ok] at h
  | n + 1, x, h => by
    have ih : ∀ b : List St, oks n b = true → oks (n + 1) b = true := fun b hb => by
      rw [oks_all, List.all_eq_true] at hb ⊢
      exact fun y hy => ok_mono1 n y (hb y hy)
    cases x with
    | hold hh s b =>
      simp [ok] at h ⊢
      exact ⟨h.1, h.2.1, ih b h.2.2.2⟩
    | group b =>
      simp [ok] at h ⊢
      exact ih b h.2
    | tryS b =>
      simp [ok] at h ⊢
      exact ih b h.2
    | take a b =>
      simp [ok] at h ⊢
      exact h
    | pass => simp [ok]
    | stop => simp [ok]
    | call b =>
      simp [ok] at h ⊢
      exact h
theorem ok_mono {n m : Nat} {x : St} (h : ok n x = true) (hm : n ≤ m) : ok m x = true := by
  induction hm with
  | refl => exact h
  | step _ ih => exact ok_mono1 _ _ ih
theorem oks_mono {n m : Nat} {xs : List St} (h : oks n xs = true) (hm : n ≤ m) : oks m xs = true := by
  rw [oks_all, List.all_eq_true] at h ⊢
  exact fun y hy => ok_mono (h y hy) hm
theorem encs_rev {xs : List St} : (encs xs).reverse = encs xs.reverse := by rw [encs_map, encs_map, List.map_reverse]
theorem encs_app {xs ys : List St} : encs xs ++ encs ys = encs (xs ++ ys) := by rw [encs_map, encs_map, encs_map, List.map_append]
theorem encs_snoc {xs : List St} {y : St} : encs xs ++ [enc y] = encs (xs ++ [y]) := by rw [← encs_app, encs_cons, encs]
section
variable {Q : R → List S → Prop} {E : Exn → List S → Prop}
theorem block_of_w {y : St} (h1 : ∀ b, (y = .group b ∨ y = .tryS b ∨ ∃ hh s, y = .hold hh s b) → Q (.d (.tup (encs b))) [.d (enc y)]) (h2 : (∀ b, y ≠ .group b) → (∀ b, y ≠ .tryS b) → (∀ hh s b, y ≠ .hold hh s b) → Q (.d .non) [.d (enc y)]) : wF F_block_of [.d (enc y)] Q E := by
  unfold F_block_of G_block_of
  rw [wF_fn]
  refine ⟨rfl, ?_⟩
  cases y with
  | hold hh s b =>
    simp [enc, K_WITH_BLOCK]
    exact h1 b (.inr (.inr ⟨hh, s, rfl⟩))
  | group b =>
    simp [enc, K_WITH_BLOCK]
    exact h1 b (.inl rfl)
  | tryS b =>
    simp [enc, K_WITH_BLOCK]
    exact h1 b (.inr (.inl rfl))
  | take a b => simp [enc, K_WITH_BLOCK]; exact h2 (by simp) (by simp) (by simp)
  | pass => simp [enc, K_WITH_BLOCK]; exact h2 (by simp) (by simp) (by simp)
  | stop => simp [enc, K_WITH_BLOCK]; exact h2 (by simp) (by simp) (by simp)
  | call b => simp [enc, K_WITH_BLOCK]; exact h2 (by simp) (by simp) (by simp)
theorem take_tidy_w {n : Nat} {s : Str} {w : List St} (ho : oks n w = true) (hn : n ≤ 24) (h : Q (.d (.bl (ttR s w.reverse))) [.d (.str s), .d (.lst (encs w))]) : wF F_is_take_tidy [.d (.str s), .d (.lst (encs w))] Q E := by
  unfold F_is_take_tidy G_is_take_tidy
  rw [wF_fn]
  refine ⟨rfl, ?_⟩
  simp
  rw [encs_rev]
  refine wS.forI (fun r ρ => ∃ ys t, r = encs ys ∧ ρ = [some (.d (.str s)), some (.d (.lst (encs w))), t] ∧ oks n ys = true ∧ ttR s w.reverse = ttR s ys) ⟨w.reverse, none, rfl, rfl, by rw [oks_rev]; exact ho, rfl⟩ ?_ ?_
  · rintro ρ ⟨ys, t, e, rfl, _, hp⟩
    cases ys with
    | cons y ys => rw [encs_cons] at e; cases e
    | nil =>
      simp
      rw [hp, ttR] at h
      exact h
  · rintro x r ρ ⟨ys, t, e, rfl, hy, hp⟩
    cases ys with
    | nil => rw [encs] at e; cases e
    | cons y ys =>
      rw [encs_cons] at e
      cases e
      simp at hy
      cases y with
      | hold hh z b =>
        simp [enc]
        by_cases hz : z = s
        · simp [hz]
          rw [hp, ttR, if_pos hz] at h
          exact h
        · simp [hz]
          exact ⟨ys, rfl, hy.2, by rw [hp, ttR, if_neg hz]⟩
      | group b =>
        cases n with
        | zero => simp [ok] at hy
        | succ n =>
          simp [ok] at hy
          simp [enc]
          refine has_pass_w 24 n hy.1.2 (by omega) ?_
          simp
          cases hb : ps b with
          | true =>
            simp
            exact ⟨ys, rfl, hy.2, by rw [hp, ttR, if_pos hb]⟩
          | false =>
            simp
            rw [hp, ttR, if_neg (by rw [hb]; decide)] at h
            exact h
      | tryS b => simp [enc]; exact ⟨ys, rfl, hy.2, by rw [hp, ttR]⟩
      | take h1 h2 => simp [enc]; exact ⟨ys, rfl, hy.2, by rw [hp, ttR]⟩
      | pass => simp [enc]; exact ⟨ys, rfl, hy.2, by rw [hp, ttR]⟩
      | stop => simp [enc]; exact ⟨ys, rfl, hy.2, by rw [hp, ttR]⟩
      | call h1 => simp [enc]; exact ⟨ys, rfl, hy.2, by rw [hp, ttR]⟩
theorem takes_tidy_w {m : Nat} (hm : m ≤ 24) : ∀ (N n : Nat) {xs w : List St} {Q : R → List S → Prop} {E : Exn → List S → Prop}, oks n xs = true → n < N → n ≤ m → oks m w = true → w.length + n ≤ 1000 → Q (.d (.bl (ads w.reverse xs))) [.d (.tup (encs xs)), .d (.lst (encs w))] →
    wF (F_are_takes_tidy N) [.d (.tup (encs xs)), .d (.lst (encs w))] Q E
  | 0, n, xs, w, Q, E, _, hn, _, _, _, _ => by omega
  | N + 1, n, xs, w, Q, E, ho, hn, hnm, hw, hz, h => by
    rw [F_are_takes_tidy, G_are_takes_tidy, wF_fn]
    refine ⟨rfl, ?_⟩
    simp
    refine wS.forI (fun r ρ => ∃ ys t u, r = encs ys ∧ ρ = [some (.d (.tup (encs xs))), some (.d (.lst (encs w))), t, u] ∧ oks n ys = true ∧ ads w.reverse xs = ads w.reverse ys) ⟨xs, none, none, rfl, rfl, ho, rfl⟩ ?_ ?_
    · rintro ρ ⟨ys, t, u, e, rfl, _, hp⟩
      cases ys with
      | cons y ys => rw [encs_cons] at e; cases e
      | nil =>
        simp
        rw [hp, ads_nil] at h
        exact h
    · rintro x r ρ ⟨ys, t, u, e, rfl, hy, hp⟩
      cases ys with
      | nil => rw [encs] at e; cases e
      | cons y ys =>
        rw [encs_cons] at e
        cases e
        simp at hy
        have sn : encs w ++ [enc y] = encs (w ++ [y]) := encs_snoc
        have oy : oks m (w ++ [y]) = true := by
          rw [oks_app, hw, oks_cons, ok_mono hy.1 hnm]
          rfl
        have deep : ∀ b : List St, oks (n - 1) b = true → 0 < n → ads (y :: w.reverse) b = adS w.reverse y → ∀ (Q' : R → List S → Prop) E', (adS w.reverse y = true → Q' (.d (.bl true)) [.d (.tup (encs b)), .d (.lst (encs (w ++ [y])))]) → (adS w.reverse y = false → Q' (.d (.bl false)) [.d (.tup (encs b)), .d (.lst (encs (w ++ [y])))]) →
            wF (F_are_takes_tidy N) [.d (.tup (encs b)), .d (.lst (encs (w ++ [y])))] Q' E' := fun b hb h0 e Q' E' q1 q2 => by
          refine takes_tidy_w hm N (n - 1) hb (by omega) (by omega) oy (by simp; omega) ?_
          rw [List.reverse_append, List.reverse_singleton, List.singleton_append, e]
          cases hc : adS w.reverse y with
          | true => exact q1 hc
          | false => exact q2 hc
        have fin1 : adS w.reverse y = false → Q (R.d (D.bl false)) [S.d (D.tup (encs xs)), S.d (D.lst (encs w))] := fun hc => by
          rw [hp, ads_cons, hc] at h
          exact h
        have fin2 : adS w.reverse y = true → ads w.reverse xs = ads w.reverse ys := fun hc => by rw [hp, ads_cons, hc, Bool.true_and]
        have sl : w.length + 1 ≤ sizeLine := by rw [sizeLine_eq]; omega
        cases y with
        | hold hh s b =>
          cases n with
          | zero => simp [ok] at hy
          | succ n =>
            simp [ok] at hy
            rw [enc] at sn ⊢
            simp
            refine block_of_w (y := .hold hh s b) (fun b' hb' => ?_) fun _ _ h3 => absurd rfl (h3 hh s b)
            have : b' = b := by rcases hb' with z | z | ⟨_, _, z⟩ <;> cases z; rfl
            subst this
            simp [encs_len, sn]
            refine ⟨sl, deep b' hy.1.2.2.2 (by omega) (by rw [adS]) _ _ (fun hc => ?_) fun hc => ?_⟩
            · simp
              exact ⟨ys, rfl, hy.2, fin2 hc⟩
            · simp
              exact fin1 hc
        | group b =>
          cases n with
          | zero => simp [ok] at hy
          | succ n =>
            simp [ok] at hy
            rw [enc] at sn ⊢
            simp
            refine block_of_w (y := .group b) (fun b' hb' => ?_) fun h3 _ _ => absurd rfl (h3 b)
            have : b' = b := by rcases hb' with z | z | ⟨_, _, z⟩ <;> cases z; rfl
            subst this
            simp [encs_len, sn]
            refine ⟨sl, deep b' hy.1.2 (by omega) (by rw [adS]) _ _ (fun hc => ?_) fun hc => ?_⟩
            · simp
              exact ⟨ys, rfl, hy.2, fin2 hc⟩
            · simp
              exact fin1 hc
        | tryS b =>
          cases n with
          | zero => simp [ok] at hy
          | succ n =>
            simp [ok] at hy
            rw [enc] at sn ⊢
            simp
            refine block_of_w (y := .tryS b) (fun b' hb' => ?_) fun _ h3 _ => absurd rfl (h3 b)
            have : b' = b := by rcases hb' with z | z | ⟨_, _, z⟩ <;> cases z; rfl
            subst this
            simp [encs_len, sn]
            refine ⟨sl, deep b' hy.1.2 (by omega) (by rw [adS]) _ _ (fun hc => ?_) fun hc => ?_⟩
            · simp
              exact ⟨ys, rfl, hy.2, fin2 hc⟩
            · simp
              exact fin1 hc
        | take a s =>
          rw [enc]
          simp
          refine take_tidy_w hw hm ?_
          simp
          rw [adS] at fin1 fin2
          cases hc : ttR s w.reverse with
          | false =>
            simp
            exact fin1 hc
          | true =>
            simp
            refine block_of_w (y := .take a s) (fun b' hb' => by rcases hb' with z | z | ⟨_, _, z⟩ <;> cases z) fun _ _ _ => ?_
            simp
            exact ⟨ys, rfl, hy.2, fin2 hc⟩
        | pass =>
          rw [enc]
          simp
          refine block_of_w (y := .pass) (fun b' hb' => by rcases hb' with z | z | ⟨_, _, z⟩ <;> cases z) fun _ _ _ => ?_
          simp
          exact ⟨ys, rfl, hy.2, fin2 (by rw [adS])⟩
        | stop =>
          rw [enc]
          simp
          refine block_of_w (y := .stop) (fun b' hb' => by rcases hb' with z | z | ⟨_, _, z⟩ <;> cases z) fun _ _ _ => ?_
          simp
          exact ⟨ys, rfl, hy.2, fin2 (by rw [adS])⟩
        | call s =>
          rw [enc]
          simp
          refine block_of_w (y := .call s) (fun b' hb' => by rcases hb' with z | z | ⟨_, _, z⟩ <;> cases z) fun _ _ _ => ?_
          simp
          exact ⟨ys, rfl, hy.2, fin2 (by rw [adS])⟩
theorem is_tidy_w {n : Nat} {xs : List St} (ho : oks n xs = true) (hn : n < 24) (h : Q (.d (.bl (ads [] xs))) [.d (.tup (encs xs))]) : wF F_is_tidy [.d (.tup (encs xs))] Q E := by
  unfold F_is_tidy G_is_tidy
  rw [wF_fn]
  refine ⟨rfl, ?_⟩
  simp
  refine takes_tidy_w (m := n) (w := []) (by omega) 24 n ho hn (Nat.le_refl _) (by rw [oks]) (by simp; omega) ?_
  simp
  exact h
end
end Dn.k49
end

section
set_option Elab.async false
set_option linter.all false
set_option maxRecDepth 100000
set_option maxHeartbeats 4000000
namespace Dn.k49
open PySem PySem.Spec L2 Dn
/-! tidy, as the law tells it -/
abbrev Tk := (Str × Str) × List St
mutual
def twS (w : List St) : St → List Tk
  | .take a s => [((a, s), w)]
  | .hold h s b => tws (w ++ [.hold h s b]) b
  | .group b => tws (w ++ [.group b]) b
  | .tryS b => tws (w ++ [.tryS b]) b
  | .pass => []
  | .stop => []
  | .call _ => []
def tws (w : List St) : List St → List Tk
  | [] => []
  | x :: xs => twS w x ++ tws w xs
end
@[simp] theorem tws_nil {w : List St} : tws w [] = [] := by rw [tws]
@[simp] theorem tws_cons {w : List St} {x : St} {xs : List St} : tws w (x :: xs) = twS w x ++ tws w xs := by rw [tws]
def encP (p : Tk) : D := .tup [enc (.take p.1.1 p.1.2), .lst (encs p.2)]
mutual
theorem tw_szS : ∀ (w : List St) (x : St), (twS w x).length ≤ szS x
  | w, .take a s => by rw [twS, szS]; simp
  | w, .hold h s b => by rw [twS, szS]; have := tw_szs (w ++ [.hold h s b]) b; omega
  | w, .group b => by rw [twS, szS]; have := tw_szs (w ++ [.group b]) b; omega
  | w, .tryS b => by rw [twS, szS]; have := tw_szs (w ++ [.tryS b]) b; omega
  | w, .pass => by rw [twS, szS]; simp
  | w, .stop => by rw [twS, szS]; simp
  | w, .call _ => by rw [twS, szS]; simp
theorem tw_szs : ∀ (w : List St) (xs : List St), (tws w xs).length ≤ szs xs
  | w, [] => by simp
  | w, x :: xs => by
    have := tw_szS w x
    have := tw_szs w xs
    simp
    omega
end
def chk (p : Tk) : Bool := ttR p.1.2 p.2.reverse
mutual
theorem ad_twS : ∀ (w : List St) (x : St), adS w.reverse x = (twS w x).all chk
  | w, .take a s => by rw [twS, adS]; simp [chk]
  | w, .hold h s b => by
    rw [twS, adS]
    have := ad_tws (w ++ [St.hold h s b]) b
    simpa using this
  | w, .group b => by
    rw [twS, adS]
    have := ad_tws (w ++ [St.group b]) b
    simpa using this
  | w, .tryS b => by
    rw [twS, adS]
    have := ad_tws (w ++ [St.tryS b]) b
    simpa using this
  | w, .pass => by rw [twS, adS]; rfl
  | w, .stop => by rw [twS, adS]; rfl
  | w, .call _ => by rw [twS, adS]; rfl
theorem ad_tws : ∀ (w : List St) (xs : List St), ads w.reverse xs = (tws w xs).all chk
  | w, [] => by simp
  | w, x :: xs => by
    rw [ads_cons, tws_cons, List.all_append, ad_twS w x, ad_tws w xs]
end
mutual
theorem tw_okS {m : Nat} : ∀ (n : Nat) (w : List St) (x : St), ok n x = true → n ≤ m → oks m w = true → ∀ p ∈ twS w x, oks m p.2 = true ∧ p.2.length ≤ w.length + n ∧ ok 1 (.take p.1.1 p.1.2) = true
  | 0, w, x, h, _, _ => by cases x <;> simp [ok] at h
  | n + 1, w, .take a s, h, hm, hw => by
    rw [twS]
    intro p hp
    rw [List.mem_singleton.mp hp]
    simp [ok] at h
    exact ⟨hw, by simp, by simp [ok]; exact h⟩
  | n + 1, w, .hold h s b, ho, hm, hw => by
    rw [twS]
    have e : oks m (w ++ [.hold h s b]) = true := by
      rw [oks_app, hw, oks_cons, ok_mono ho hm]
      rfl
    simp [ok] at ho
    intro p hp
    obtain ⟨h1, h2, h3⟩ := tw_oks n (w ++ [.hold h s b]) b ho.2.2.2 (by omega) e p hp
    exact ⟨h1, by simp at h2; omega, h3⟩
  | n + 1, w, .group b, ho, hm, hw => by
    rw [twS]
    have e : oks m (w ++ [.group b]) = true := by
      rw [oks_app, hw, oks_cons, ok_mono ho hm]
      rfl
    simp [ok] at ho
    intro p hp
    obtain ⟨h1, h2, h3⟩ := tw_oks n (w ++ [.group b]) b ho.2 (by omega) e p hp
    exact ⟨h1, by simp at h2; omega, h3⟩
  | n + 1, w, .tryS b, ho, hm, hw => by
    rw [twS]
    have e : oks m (w ++ [.tryS b]) = true := by
      rw [oks_app, hw, oks_cons, ok_mono ho hm]
      rfl
    simp [ok] at ho
    intro p hp
    obtain ⟨h1, h2, h3⟩ := tw_oks n (w ++ [.tryS b]) b ho.2 (by omega) e p hp
    exact ⟨h1, by simp at h2; omega, h3⟩
  | n + 1, w, .pass, _, _, _ => by rw [twS]; simp
  | n + 1, w, .stop, _, _, _ => by rw [twS]; simp
  | n + 1, w, .call _, _, _, _ => by rw [twS]; simp
theorem tw_oks {m : Nat} : ∀ (n : Nat) (w : List St) (xs : List St), oks n xs = true → n ≤ m → oks m w = true → ∀ p ∈ tws w xs, oks m p.2 = true ∧ p.2.length ≤ w.length + n ∧ ok 1 (.take p.1.1 p.1.2) = true
  | n, w, [], _, _, _ => by simp
  | n, w, x :: xs, h, hm, hw => by
    simp at h
    rw [tws_cons]
    intro p hp
    rcases List.mem_append.mp hp with hp | hp
    · exact tw_okS n w x h.1 hm hw p hp
    · exact tw_oks n w xs h.2 hm hw p hp
end
section
variable {Q : R → List S → Prop} {E : Exn → List S → Prop}
theorem ways_w {m : Nat} (hm : m ≤ 24) : ∀ (N n : Nat) {xs w : List St} {Q : R → List S → Prop} {E : Exn → List S → Prop}, oks n xs = true → n < N → w.length + n ≤ 1000 → szs xs ≤ 1000000 → Q (.d (.lst ((tws w xs).map encP))) [.d (.tup (encs xs)), .d (.lst (encs w))] →
    wF (F__law_takes_with_ways N) [.d (.tup (encs xs)), .d (.lst (encs w))] Q E
  | 0, n, xs, w, Q, E, _, hn, _, _, _ => by omega
  | N + 1, n, xs, w, Q, E, ho, hn, hl, hz, h => by
    rw [F__law_takes_with_ways, G__law_takes_with_ways, wF_fn]
    refine ⟨rfl, ?_⟩
    simp
    refine wS.forI (fun r ρ => ∃ ys zs t, r = encs ys ∧ ρ = [some (.d (.tup (encs xs))), some (.d (.lst (encs w))), some (.o (.lst (zs.map encP))), t] ∧ oks n ys = true ∧ szs ys ≤ szs xs ∧ zs ++ tws w ys = tws w xs) ⟨xs, [], none, rfl, rfl, ho, Nat.le_refl _, rfl⟩ ?_ ?_
    · rintro ρ ⟨ys, zs, t, e, rfl, _, _, hp⟩
      cases ys with
      | cons y ys => rw [encs_cons] at e; cases e
      | nil =>
        simp at hp
        simp
        rw [hp]
        exact h
    · rintro x r ρ ⟨ys, zs, t, e, rfl, hy, hyz, hp⟩
      have hlen := congrArg List.length hp
      have hb := tw_szs w xs
      cases ys with
      | nil => rw [encs] at e; cases e
      | cons y ys =>
        rw [encs_cons] at e
        cases e
        simp at hy hyz hlen
        have sn : encs w ++ [enc y] = encs (w ++ [y]) := encs_snoc
        have sl : w.length + 1 ≤ sizeLine := by rw [sizeLine_eq]; omega
        have s3 : zs.length + (twS w y).length ≤ sizeLine := by rw [sizeLine_eq]; omega
        have fin : ∀ t, ∃ ys1 zs1 t1, encs ys = encs ys1 ∧ ([some (S.d (.tup (encs xs))), some (S.d (.lst (encs w))), some (S.o (.lst (zs.map encP ++ (twS w y).map encP))), t] : Env) = [some (.d (.tup (encs xs))), some (.d (.lst (encs w))), some (.o (.lst (zs1.map encP))), t1] ∧ oks n ys1 = true ∧ szs ys1 ≤ szs xs ∧ zs1 ++ tws w ys1 = tws w xs := fun t =>
          ⟨ys, zs ++ twS w y, t, rfl, by rw [List.map_append], hy.2, by omega, by rw [← hp, tws_cons, List.append_assoc]⟩
        have deep : ∀ b : List St, oks (n - 1) b = true → 0 < n → tws (w ++ [y]) b = twS w y → szs b ≤ szS y → ∀ (Q' : R → List S → Prop) E', Q' (.d (.lst ((twS w y).map encP))) [.d (.tup (encs b)), .d (.lst (encs (w ++ [y])))] →
            wF (F__law_takes_with_ways N) [.d (.tup (encs b)), .d (.lst (encs (w ++ [y])))] Q' E' := fun b hb h0 e hs Q' E' q => by
          refine ways_w hm N (n - 1) hb (by omega) (by simp; omega) (by omega) ?_
          rw [e]
          exact q
        cases y with
        | hold hh s b =>
          cases n with
          | zero => simp [ok] at hy
          | succ n =>
            simp [ok] at hy
            rw [enc] at sn ⊢
            simp [encs_len, sn]
            refine ⟨sl, deep b hy.1.2.2.2 (by omega) (by rw [twS]) (by rw [szS]; omega) _ _ ?_⟩
            simp
            refine ⟨s3, ?_⟩
            have := fin (some (.d (.tup [.str "hold", .str hh, .str s, .tup (encs b)])))
            simpa using this
        | group b =>
          cases n with
          | zero => simp [ok] at hy
          | succ n =>
            simp [ok] at hy
            rw [enc] at sn ⊢
            simp [encs_len, sn]
            refine ⟨sl, deep b hy.1.2 (by omega) (by rw [twS]) (by rw [szS]; omega) _ _ ?_⟩
            simp
            refine ⟨s3, ?_⟩
            have := fin (some (.d (.tup [.str "group", .tup (encs b)])))
            simpa using this
        | tryS b =>
          cases n with
          | zero => simp [ok] at hy
          | succ n =>
            simp [ok] at hy
            rw [enc] at sn ⊢
            simp [encs_len, sn]
            refine ⟨sl, deep b hy.1.2 (by omega) (by rw [twS]) (by rw [szS]; omega) _ _ ?_⟩
            simp
            refine ⟨s3, ?_⟩
            have := fin (some (.d (.tup [.str "try", .tup (encs b)])))
            simpa using this
        | take a s =>
          rw [enc]
          simp
          rw [twS] at s3 fin
          refine ⟨by simp at s3; omega, ?_⟩
          have := fin (some (.d (.tup [.str "take", .str a, .str s])))
          simp [encP, enc] at this
          exact this
        | pass =>
          rw [enc]
          simp
          rw [twS] at fin
          have := fin (some (.d (.tup [.str "pass"])))
          simpa using this
        | stop =>
          rw [enc]
          simp
          rw [twS] at fin
          have := fin (some (.d (.tup [.str "stop"])))
          simpa using this
        | call s =>
          rw [enc]
          simp
          rw [twS] at fin
          have := fin (some (.d (.tup [.str "call", .str s])))
          simpa using this
end
end Dn.k49
end

section
set_option Elab.async false
set_option linter.all false
set_option maxRecDepth 100000
set_option maxHeartbeats 4000000
namespace Dn.k49
open PySem PySem.Spec L2 Dn
/-! what may be compared -/
theorem nmB_ok {z : Str} (h : nmB z = true) : PyData.strOk z = true := by
  unfold nmB at h
  rw [Bool.and_eq_true] at h
  exact h.1
structure Shp (k : Nat) (ds : List D) : Prop where
  p : isPys ds = true
  c : PyData.canLayAll0 (toPys ds) = true
  d : PyData.depthAll (toPys ds) ≤ k
theorem Shp.nil {k : Nat} : Shp k [] := ⟨rfl, rfl, Nat.zero_le _⟩
theorem Shp.cons {k : Nat} {x : D} {xs : List D} (h : Shp k xs) (a : isPy x = true) (b : PyData.canLay0 (toPy x) = true) (c : PyData.depth (toPy x) ≤ k) : Shp k (x :: xs) :=
  ⟨by rw [isPys, a, h.p]; rfl, by rw [toPys, PyData.canLayAll0, b, h.c]; rfl, by rw [toPys, PyData.depthAll]; exact Nat.max_le.mpr ⟨c, h.d⟩⟩
theorem Shp.str {k : Nat} {z : Str} {xs : List D} (h : Shp k xs) (hz : PyData.strOk z = true) : Shp k (.str z :: xs) := h.cons rfl hz (Nat.zero_le _)
theorem Shp.tup {k : Nat} {ys xs : List D} (h : Shp k xs) (hy : Shp (k - 1) ys) (hk : 0 < k) : Shp k (.tup ys :: xs) :=
  h.cons (by rw [isPy]; exact hy.p) (by rw [toPy, PyData.canLay0]; exact hy.c) (by rw [toPy, PyData.depth]; have := hy.d; omega)
theorem Shp.shaped {k : Nat} {xs : List D} (h : Shp k xs) (hk : k ≤ 63) : isPy (.lst xs) = true ∧ SeqAt.shaped (toPy (.lst xs)) = true := by
  refine ⟨h.p, ?_⟩
  unfold SeqAt.shaped
  rw [Bool.and_eq_true]
  refine ⟨h.c, decide_eq_true ?_⟩
  rw [toPy, PyData.depth]
  have := h.d
  omega
theorem Shp.mono {j k : Nat} {xs : List D} (h : Shp j xs) (hk : j ≤ k) : Shp k xs := ⟨h.p, h.c, Nat.le_trans h.d hk⟩
theorem shp_ints : ∀ ns : List Int, Shp 0 (ns.map D.int)
  | [] => .nil
  | n :: ns => (shp_ints ns).cons rfl rfl (Nat.le_refl _)
theorem shp_encs : ∀ (n : Nat) (xs : List St), oks n xs = true → Shp (2 * n) (encs xs)
  | n, [], _ => by rw [encs]; exact .nil
  | 0, x :: xs, h => by
    simp at h
    cases x <;> simp [ok] at h
  | n + 1, x :: xs, h => by
    simp at h
    have ih := shp_encs (n + 1) xs h.2
    rw [encs_cons]
    have e1 : 2 * (n + 1) - 1 = 2 * n + 1 := by omega
    have t0 : PyData.strOk "hold" = true ∧ PyData.strOk "group" = true ∧ PyData.strOk "try" = true ∧ PyData.strOk "take" = true ∧ PyData.strOk "pass" = true ∧ PyData.strOk "stop" = true ∧ PyData.strOk "call" = true := by decide +kernel
    have inner : ∀ b : List St, oks n b = true → Shp (2 * n + 1) [.tup (encs b)] := fun b hb => Shp.nil.tup (by have := shp_encs n b hb; simpa using this) (by omega)
    cases x with
    | hold hh s b =>
      simp [ok] at h
      rw [enc]
      refine ih.tup ?_ (by omega)
      rw [e1]
      exact (((inner b h.1.2.2.2).str (nmB_ok h.1.2.1)).str (nmB_ok h.1.1)).str t0.1
    | group b =>
      simp [ok] at h
      rw [enc]
      refine ih.tup ?_ (by omega)
      rw [e1]
      exact (inner b h.1.2).str t0.2.1
    | tryS b =>
      simp [ok] at h
      rw [enc]
      refine ih.tup ?_ (by omega)
      rw [e1]
      exact (inner b h.1.2).str t0.2.2.1
    | take a s =>
      simp [ok] at h
      rw [enc]
      exact ih.tup (((Shp.nil.str (nmB_ok h.1.2)).str (nmB_ok h.1.1)).str t0.2.2.2.1) (by omega)
    | pass =>
      rw [enc]
      exact ih.tup (Shp.nil.str t0.2.2.2.2.1) (by omega)
    | stop =>
      rw [enc]
      exact ih.tup (Shp.nil.str t0.2.2.2.2.2.1) (by omega)
    | call s =>
      simp [ok] at h
      rw [enc]
      exact ih.tup ((Shp.nil.str (nmB_ok h.1)).str t0.2.2.2.2.2.2) (by omega)
/-- xs != [] -/
theorem ne_nil {k : Nat} {xs : List D} {P : Bool → Prop} (h : Shp k xs) (hk : k ≤ 63) (q : P (xs.isEmpty)) : wP (eqS (.lst xs) (.lst [])) P := by
  rw [eqS_l]
  obtain ⟨a, b⟩ := h.shaped hk
  have e : PyData.eqv (toPy (.lst xs)) (toPy (.lst [])) = xs.isEmpty := by
    cases xs with
    | nil => rfl
    | cons x xs =>
      rw [toPy, toPy, toPys, toPys, PyData.eqv, PyData.eqvAll]
      rfl
  exact ⟨⟨a, rfl, b, by decide⟩, by rw [e]; exact q⟩
/-! groups -/
def isG : St → Bool
  | .group _ => true
  | _ => false
/-- the items with their places -/
def en : Nat → List St → List D
  | _, [] => []
  | k, x :: xs => .tup [.int (k : Nat), enc x] :: en (k + 1) xs
def gix : Nat → List St → List Nat
  | _, [] => []
  | k, x :: xs => if isG x = true then k :: gix (k + 1) xs else gix (k + 1) xs
theorem rng_cons {lo : Int} {n : Nat} : rng lo (n + 1) = .int lo :: rng (lo + 1) n := by
  unfold rng
  rw [List.range_succ_eq_map, List.map_cons, List.map_map]
  refine congr (congrArg _ (by simp)) (List.map_congr_left fun i _ => ?_)
  simp only [Function.comp]
  congr 1
  omega
theorem en_eq : ∀ (xs : List St) (k : Nat), pairs (rng (k : Nat) xs.length) (encs xs) = en k xs
  | [], k => by rw [encs]; rfl
  | x :: xs, k => by
    rw [encs_cons, List.length_cons, rng_cons]
    have := en_eq xs (k + 1)
    unfold pairs at this ⊢
    rw [List.zip_cons_cons, List.map_cons, en, ← this]
    rfl
theorem gix_mem : ∀ (xs : List St) (k : Nat), ∀ i ∈ gix k xs, k ≤ i ∧ ∃ b, xs[i - k]? = some (.group b)
  | [], _, i, h => by simp [gix] at h
  | x :: xs, k, i, h => by
    have ih := gix_mem xs (k + 1)
    rw [gix] at h
    have up : i ∈ gix (k + 1) xs → k ≤ i ∧ ∃ b, (x :: xs)[i - k]? = some (.group b) := fun h => by
      obtain ⟨h1, b, h2⟩ := ih i h
      refine ⟨by omega, b, ?_⟩
      rw [show i - k = (i - (k + 1)) + 1 by omega]
      simpa using h2
    split at h
    · rename_i hg
      rcases List.mem_cons.mp h with rfl | h
      · refine ⟨Nat.le_refl _, ?_⟩
        cases x with
        | group b => exact ⟨b, by simp⟩
        | _ => cases hg
      · exact up h
    · exact up h
/-- every group has its place among them -/
theorem mem_gix : ∀ (xs : List St) (k j : Nat) (b : List St), xs[j]? = some (.group b) → k + j ∈ gix k xs
  | [], _, j, b, h => by simp at h
  | x :: xs, k, 0, b, h => by
    simp at h
    subst h
    rw [gix]
    simp [isG]
  | x :: xs, k, j + 1, b, h => by
    have := mem_gix xs (k + 1) j b (by simpa using h)
    rw [gix]
    have e : k + (j + 1) = k + 1 + j := by omega
    rw [e]
    split
    · exact List.mem_cons_of_mem _ this
    · exact this
/-- ascending -/
theorem gix_sorted : ∀ (xs : List St) (k : Nat), (gix k xs).Pairwise (· < ·)
  | [], _ => by simp [gix]
  | x :: xs, k => by
    have ih := gix_sorted xs (k + 1)
    rw [gix]
    split
    · exact List.pairwise_cons.mpr ⟨fun i hi => by have := (gix_mem xs (k + 1) i hi).1; omega, ih⟩
    · exact ih
/-- a hold of the slot s -/
def hs (s : Str) : St → Bool
  | .hold _ t _ => decide (t = s)
  | _ => false
/-- where all groups pass, only the holds count -/
theorem ttR_pass {s : Str} : ∀ (w r : List St), (∀ b, St.group b ∈ w → ps b = true) → ttR s (w.reverse ++ r) = (!(w.any (hs s)) && ttR s r)
  | [], r, _ => by simp
  | x :: w, r, h => by
    have e : (x :: w).reverse ++ r = w.reverse ++ (x :: r) := by simp
    rw [e, ttR_pass w (x :: r) fun b hb => h b (List.mem_cons_of_mem _ hb), List.any_cons]
    cases x with
    | hold hh t b =>
      rw [ttR, hs]
      by_cases ht : t = s
      · simp [ht]
      · simp [ht]
    | group b =>
      rw [ttR, if_pos (h b List.mem_cons_self)]
      simp [hs]
    | tryS b => rw [ttR]; simp [hs]
    | take a b => rw [ttR]; simp [hs]
    | pass => rw [ttR]; simp [hs]
    | stop => rw [ttR]; simp [hs]
    | call b => rw [ttR]; simp [hs]
/-- behind a group that does not pass -/
theorem ttR_stop {s : Str} {w1 w2 : List St} {b : List St} (hb : ps b = false) (h : ∀ b, St.group b ∈ w2 → ps b = true) : ttR s (w1 ++ .group b :: w2).reverse = !(w2.any (hs s)) := by
  have e : (w1 ++ .group b :: w2).reverse = w2.reverse ++ (.group b :: w1.reverse) := by simp
  rw [e, ttR_pass w2 _ h, ttR, if_neg (by rw [hb]; decide), Bool.and_true]
end Dn.k49
end

section
set_option Elab.async false
set_option linter.all false
set_option maxRecDepth 100000
set_option maxHeartbeats 4000000
namespace Dn.k49
open PySem PySem.Spec L2 Dn
def nats (G : List Nat) : List D := G.map fun i : Nat => D.int (i : Nat)
theorem shp_nats (G : List Nat) : Shp 0 (nats G) := by
  have := shp_ints (G.map fun i : Nat => ((i : Nat) : Int))
  rw [List.map_map] at this
  exact this
theorem nats_emp {G : List Nat} : (nats G).isEmpty = G.isEmpty := by cases G <;> rfl
theorem getL_nats {G : List Nat} (h : G ≠ []) : atI (nats G) (-1) = some (.int ((G.getLast h : Nat))) := by
  unfold nats
  rw [atI_neg1 (by simpa using h), List.getLast_map]
theorem at_encs {w : List St} {i : Nat} {x : St} (h : w[i]? = some x) : atI (encs w) (i : Int) = some (enc x) := by
  rw [atI_nn, encs_map, List.getElem?_map, h]
  rfl
theorem encs_drop {xs : List St} {i : Nat} : (encs xs).drop i = encs (xs.drop i) := by rw [encs_map, encs_map, List.map_drop]
theorem encs_take {xs : List St} {i : Nat} : (encs xs).take i = encs (xs.take i) := by rw [encs_map, encs_map, List.map_take]
/-! the pieces of the law's def -/
def cmpT : DE := xLc (itD (xVar 2) kEnumA) [5, 6] (gTp [(gNm 5), (gNm 6)]) (tB (o2 (o2 (xVar 6) (xC (.int 0)) kIx) (xC (.str "group")) kEq)) (xVar 5)
def whT (F : FD) : DS := whN (tAn (tB (o2 (xVar 3) (xLst []) kNe)) (tV (dCall F [(o2 (o2 (xVar 2) (o2 (xVar 3) (o1 (xC (.int 1)) kNeg) kIx) kIx) (o1 (xC (.int 1)) kNeg) kIx)] []))) (sSeq (sExp (mO (xVar 3) [] oPop)) sSkip) 2000
def insT : DE := xIf (tB (o2 (xVar 3) (xLst []) kNe)) (xSl (xVar 2) (eI (o2 (o2 (xVar 3) (o1 (xC (.int 1)) kNeg) kIx) (xC (.int 1)) kAdd)) eNo) (xVar 2)
def hasT : Dx Bool := tB (o2 (xLc (itSeq (xVar 4)) [6] (gNm 6) (tAn (tB (o2 (o2 (xVar 6) (xC (.int 0)) kIx) (xC (.str "hold")) kEq)) (tB (o2 (o2 (xVar 6) (xC (.int 2)) kIx) (o2 (xVar 1) (xC (.int 2)) kIx) kEq))) (xVar 6)) (xLst []) kNe)
theorem G_law_tidy (F1 F2 : FD) : G__law_is_tidy F1 F2 = sSeq (sFor (itSeq (dCall F1 [(xVar 0), (xLst [])] [])) (gTp [(gNm 1), (gNm 2)]) (sSeq (sSet 3 cmpT) (sSeq (whT F2) (sSeq (sSet 4 insT) (sSeq (sIf hasT (sSeq (sRet (xC (.bl false))) sSkip) sSkip) sSkip)))))
    (sSeq (sRet (xC (.bl true))) sSkip) := rfl
section
variable {a0 : Option S} {tk slot : Str} {w : List St} {n : Nat} {t3 t4 t5 t6 : Option S} {Er : Exn → Env → Prop}
/-- the environment in a turn -/
abbrev rT (a0 : Option S) (tk slot : Str) (w : List St) (t3 t4 t5 t6 : Option S) : Env := [a0, some (.d (enc (.take tk slot))), some (.d (.lst (encs w))), t3, t4, t5, t6]
theorem cmp_w {P : R → Env → Prop} (hl : w.length ≤ 1000) (h : ∀ t3 t5 t6, P (.o (.lst (nats (gix 0 w)))) (rT a0 tk slot w t3 t4 t5 t6)) : wE cmpT (rT a0 tk slot w t3 t4 t5 t6) P Er := by
  unfold cmpT
  have e0 := en_eq w 0
  rw [Int.natCast_zero] at e0
  simp
  rw [encs_len, e0]
  refine wE.compI (fun r acc ρ => ∃ k ys u v z G, r = en k ys ∧ ρ = rT a0 tk slot w z t4 u v ∧ acc = nats G ∧ G ++ gix k ys = gix 0 w ∧ G.length + ys.length ≤ w.length) ⟨0, w, t5, t6, t3, [], rfl, rfl, rfl, rfl, by simp⟩ ?_ ?_
  · rintro acc ρ ⟨k, ys, u, v, z, G, e, rfl, rfl, hG, _⟩
    cases ys with
    | cons y ys => rw [en] at e; cases e
    | nil =>
      simp [gix] at hG
      subst hG
      exact h z u v
  · rintro x r acc ρ ⟨k, ys, u, v, z, G, e, rfl, rfl, hG, hGl⟩
    cases ys with
    | nil => rw [en] at e; cases e
    | cons y ys =>
      rw [en] at e
      cases e
      rw [gix] at hG
      simp at hGl
      have skip : isG y = false → ∀ u v, ∃ k1 ys1 u1 v1 z1 G1, en (k + 1) ys = en k1 ys1 ∧ rT a0 tk slot w z t4 u v = rT a0 tk slot w z1 t4 u1 v1 ∧ nats G = nats G1 ∧ G1 ++ gix k1 ys1 = gix 0 w ∧ G1.length + ys1.length ≤ w.length := fun hy u v => by
        rw [hy] at hG
        exact ⟨k + 1, ys, u, v, z, G, rfl, rfl, rfl, hG, by omega⟩
      have take : isG y = true → ∀ u v, (nats G).length < sizeLine ∧ ∃ k1 ys1 u1 v1 z1 G1, en (k + 1) ys = en k1 ys1 ∧ rT a0 tk slot w z t4 u v = rT a0 tk slot w z1 t4 u1 v1 ∧ nats G ++ [.int (k : Nat)] = nats G1 ∧ G1 ++ gix k1 ys1 = gix 0 w ∧ G1.length + ys1.length ≤ w.length := fun hy u v => by
        rw [hy, if_pos rfl] at hG
        refine ⟨by rw [sizeLine_eq]; simp [nats]; omega, k + 1, ys, u, v, z, G ++ [k], rfl, rfl, by simp [nats], by simpa using hG, by simp; omega⟩
      cases y with
      | group b =>
        have := take rfl none none
        simp [enc] at this ⊢
        exact this
      | hold hh s b =>
        have := skip rfl none none
        simp [enc] at this ⊢
        exact this
      | tryS b =>
        have := skip rfl none none
        simp [enc] at this ⊢
        exact this
      | take a b =>
        have := skip rfl none none
        simp [enc] at this ⊢
        exact this
      | pass =>
        have := skip rfl none none
        simp [enc] at this ⊢
        exact this
      | stop =>
        have := skip rfl none none
        simp [enc] at this ⊢
        exact this
      | call b =>
        have := skip rfl none none
        simp [enc] at this ⊢
        exact this
/-- what the while leaves: the groups G, the others pass -/
structure Left (w : List St) (G : List Nat) : Prop where
  ex : ∃ P, G ++ P = gix 0 w ∧ ∀ i ∈ P, ∀ b, w[i]? = some (.group b) → ps b = true
  last : ∀ h : G ≠ [], ∀ b, w[G.getLast h]? = some (.group b) → ps b = false
theorem wh_w {P : Ctl → Env → Prop} (ho : oks n w = true) (hn : n ≤ 24) (hl : w.length ≤ 1000) (h : ∀ G, Left w G → P .nx (rT a0 tk slot w (some (.o (.lst (nats G)))) t4 t5 t6)) : wS (whT (F__law_passes 24)) (rT a0 tk slot w (some (.o (.lst (nats (gix 0 w))))) t4 t5 t6) P := by
  unfold whT
  have gl : (gix 0 w).length ≤ w.length := by
    have : ∀ (xs : List St) (k : Nat), (gix k xs).length ≤ xs.length := by
      intro xs
      induction xs with
      | nil => intro k; simp [gix]
      | cons x xs ih =>
        intro k
        have := ih (k + 1)
        rw [gix]
        split <;> simp <;> omega
    exact this w 0
  refine wS.whlI (fun m ρ => ∃ G P, ρ = rT a0 tk slot w (some (.o (.lst (nats G)))) t4 t5 t6 ∧ G.length = m ∧ G ++ P = gix 0 w ∧ ∀ i ∈ P, ∀ b, w[i]? = some (.group b) → ps b = true) (m := (gix 0 w).length) ⟨gix 0 w, [], rfl, rfl, by simp, by simp⟩ (by omega) ?_
  rintro m ρ ⟨G, P', rfl, rfl, hG, hP⟩
  simp [-eqS_l]
  refine ne_nil (shp_nats G) (by omega) ?_
  rw [nats_emp]
  cases hG0 : G with
  | nil =>
    subst hG0
    simp
    exact h [] ⟨⟨P', hG, hP⟩, fun z => absurd rfl z⟩
  | cons g0 G0 =>
    have hne : G ≠ [] := by rw [hG0]; simp
    rw [← hG0]
    have em : G.isEmpty = false := by rw [hG0]; rfl
    simp [em]
    rw [getL_nats hne]
    have hi : G.getLast hne ∈ gix 0 w := by rw [← hG]; exact List.mem_append_left _ (List.getLast_mem hne)
    obtain ⟨_, b, hb⟩ := gix_mem w 0 _ hi
    rw [Nat.sub_zero] at hb
    simp
    rw [at_encs hb]
    have hob : ok n (.group b) = true := by
      rw [oks_all, List.all_eq_true] at ho
      exact ho _ (List.mem_of_getElem? hb)
    cases n with
    | zero => simp [ok] at hob
    | succ n =>
      simp [ok] at hob
      simp [enc]
      rw [passes_eq]
      refine has_pass_w 24 n hob.2 (by omega) ?_
      simp
      cases hc : ps b with
      | false =>
        simp
        exact h G ⟨⟨P', hG, hP⟩, fun _ b' hb' => by rw [hb] at hb'; cases hb'; exact hc⟩
      | true =>
        simp
        have hlen : 0 < G.length := List.length_pos_iff.mpr hne
        have hx : (nats G)[(nats G).length - 1]? = some (.int ((G.getLast hne : Nat))) := by
          unfold nats
          rw [List.length_map, List.getElem?_map, List.getLast_eq_getElem, List.getElem?_eq_getElem (by omega)]
          rfl
        rw [hx]
        simp
        refine ⟨G.length - 1, by omega, G.dropLast, ?_, by simp, G.getLast hne :: P', ?_, ?_⟩
        · unfold nats
          rw [List.map_dropLast]
        · rw [← hG]
          have := List.dropLast_concat_getLast hne
          rw [← List.singleton_append, ← List.append_assoc, this]
        · intro i hi' b' hb'
          rcases List.mem_cons.mp hi' with rfl | hi'
          · rw [hb] at hb'
            cases hb'
            exact hc
          · exact hP i hi' b' hb'
/-- the statements that count -/
def insD (w : List St) (G : List Nat) : List St := match G with
  | [] => w
  | g :: r => w.drop ((g :: r).getLast (by simp) + 1)
theorem ins_of {G : List Nat} (h : G ≠ []) : insD w G = w.drop (G.getLast h + 1) := by
  cases G with
  | nil => exact absurd rfl h
  | cons g r => rfl
theorem left_chk {G : List Nat} (L : Left w G) : ttR slot w.reverse = !((insD w G).any (hs slot)) := by
  obtain ⟨P, hG, hP⟩ := L.ex
  by_cases h : G = []
  · subst h
    have := ttR_pass (s := slot) w [] fun b hb => by
      obtain ⟨j, hj, e⟩ := List.mem_iff_getElem.mp hb
      have e2 : w[j]? = some (.group b) := by rw [List.getElem?_eq_getElem hj, e]
      have := mem_gix w 0 j b e2
      rw [Nat.zero_add, ← hG, List.nil_append] at this
      exact hP j this b e2
    rw [List.append_nil, ttR, Bool.and_true] at this
    exact this
  · have hi : G.getLast h ∈ gix 0 w := by rw [← hG]; exact List.mem_append_left _ (List.getLast_mem h)
    obtain ⟨_, b, hb⟩ := gix_mem w 0 _ hi
    rw [Nat.sub_zero] at hb
    have hlt : G.getLast h < w.length := (List.getElem?_eq_some_iff.mp hb).1
    have hbe := (List.getElem?_eq_some_iff.mp hb).2
    have e : w = w.take (G.getLast h) ++ .group b :: w.drop (G.getLast h + 1) := by
      rw [← hbe, ← List.drop_eq_getElem_cons hlt, List.take_append_drop]
    have key := ttR_stop (s := slot) (w1 := w.take (G.getLast h)) (w2 := w.drop (G.getLast h + 1)) (L.last h b hb) fun b' hb' => by
      obtain ⟨j, hj, e'⟩ := List.mem_iff_getElem.mp hb'
      rw [List.getElem_drop] at e'
      have e2 : w[G.getLast h + 1 + j]? = some (.group b') := by
        rw [List.length_drop] at hj
        rw [List.getElem?_eq_getElem (by omega), e']
      have hm := mem_gix w 0 (G.getLast h + 1 + j) b' e2
      rw [Nat.zero_add, ← hG] at hm
      rcases List.mem_append.mp hm with hm | hm
      · exfalso
        have hs := gix_sorted w 0
        rw [← hG, ← List.dropLast_concat_getLast h, List.append_assoc, List.pairwise_append] at hs
        have hm2 : G.getLast h + 1 + j ∈ G.dropLast ++ [G.getLast h] := by rw [List.dropLast_concat_getLast h]; exact hm
        rcases List.mem_append.mp hm2 with q | q
        · have := hs.2.2 _ q (G.getLast h) (by simp)
          omega
        · have := List.mem_singleton.mp q
          omega
      · exact hP _ hm b' e2
    rw [← e] at key
    rw [key, ins_of h]
theorem ins_w {G : List Nat} {P : R → Env → Prop} (L : Left w G) (h1 : G = [] → P (.d (.lst (encs w))) (rT a0 tk slot w (some (.o (.lst (nats G)))) t4 t5 t6)) (h2 : G ≠ [] → P (.o (.lst (encs (insD w G)))) (rT a0 tk slot w (some (.o (.lst (nats G)))) t4 t5 t6)) : wE insT (rT a0 tk slot w (some (.o (.lst (nats G)))) t4 t5 t6) P Er := by
  unfold insT
  simp [-eqS_l]
  refine ne_nil (shp_nats G) (by omega) ?_
  rw [nats_emp]
  by_cases h : G = []
  · subst h
    simp
    exact h1 rfl
  · have em : G.isEmpty = false := by simpa using h
    simp [em]
    rw [getL_nats h]
    simp
    have e : cut (encs w) (some (((G.getLast h : Nat) : Int) + 1)) none = encs (insD w G) := by
      rw [ins_of h, ← encs_drop, show (((G.getLast h : Nat) : Int) + 1) = ((G.getLast h + 1 : Nat) : Int) by omega, cut_from]
    rw [e]
    exact h2 h
end
end Dn.k49
end

section
set_option Elab.async false
set_option linter.all false
set_option maxRecDepth 100000
set_option maxHeartbeats 4000000
namespace Dn.k49
open PySem PySem.Spec L2 Dn
section
variable {a0 : Option S} {tk slot : Str} {w : List St} {n : Nat} {t3 t4 t5 t6 : Option S} {Er : Exn → Env → Prop}
theorem filt_ok {I : List St} (ho : oks n I = true) : oks n (I.filter (hs slot)) = true := by
  rw [oks_all, List.all_eq_true] at ho ⊢
  exact fun x hx => ho x (List.mem_filter.mp hx).1
theorem filt_emp {I : List St} : (encs (I.filter (hs slot))).isEmpty = !(I.any (hs slot)) := by
  rw [encs_map]
  induction I with
  | nil => rfl
  | cons x I ih =>
    rw [List.filter_cons, List.any_cons]
    cases h : hs slot x with
    | true => simp
    | false => simpa using ih
theorem has_w {I : List St} {s4 : S} {P : Bool → Env → Prop} (h4 : s4 = .d (.lst (encs I)) ∨ s4 = .o (.lst (encs I))) (ho : oks n I = true) (hn : n ≤ 24) (hl : I.length ≤ 1000) (h : ∀ s t5 t6, P (I.any (hs slot)) (rT a0 tk slot w t3 (some s) t5 t6)) :
    wE hasT (rT a0 tk slot w t3 (some s4) t5 t6) P Er := by
  have key : ∀ s4' : S, wE (compL [6] (gNm 6) (tAn (tB (o2 (o2 (xVar 6) (xC (D.int 0)) kIx) (xC (D.str (Str.ofString "hold"))) kEq)) (tB (o2 (o2 (xVar 6) (xC (D.int 2)) kIx) (o2 (xVar 1) (xC (D.int 2)) kIx) kEq))) (xVar 6) (encs I) []) (rT a0 tk slot w t3 (some s4') t5 t6)
      (fun acc ρ2 => wP (eqS (.lst acc) (.lst [])) fun b => P (!b) ρ2) Er := by
    intro s4'
    refine wE.compI (fun r acc ρ => ∃ ys zs u, r = encs ys ∧ ρ = rT a0 tk slot w t3 (some s4') t5 u ∧ acc = encs zs ∧ zs ++ ys.filter (hs slot) = I.filter (hs slot) ∧ zs.length + ys.length ≤ I.length) ⟨I, [], t6, rfl, rfl, by rw [encs], rfl, by simp⟩ ?_ ?_
    · rintro acc ρ ⟨ys, zs, u, e, rfl, rfl, hf, _⟩
      cases ys with
      | cons y ys => rw [encs_cons] at e; cases e
      | nil =>
        simp at hf
        subst hf
        refine ne_nil (shp_encs n _ (filt_ok ho)) (by omega) ?_
        rw [filt_emp, Bool.not_not]
        exact h _ _ _
    · rintro x r acc ρ ⟨ys, zs, u, e, rfl, rfl, hf, hl2⟩
      cases ys with
      | nil => rw [encs] at e; cases e
      | cons y ys =>
        rw [encs_cons] at e
        cases e
        rw [List.filter_cons] at hf
        simp at hl2
        have skip : hs slot y = false → ∀ u, ∃ ys1 zs1 u1, encs ys = encs ys1 ∧ rT a0 tk slot w t3 (some s4') t5 u = rT a0 tk slot w t3 (some s4') t5 u1 ∧ encs zs = encs zs1 ∧ zs1 ++ ys1.filter (hs slot) = I.filter (hs slot) ∧ zs1.length + ys1.length ≤ I.length := fun hy u => by
          rw [hy] at hf
          exact ⟨ys, zs, u, rfl, rfl, rfl, hf, by omega⟩
        have take : hs slot y = true → ∀ u, (encs zs).length < sizeLine ∧ ∃ ys1 zs1 u1, encs ys = encs ys1 ∧ rT a0 tk slot w t3 (some s4') t5 u = rT a0 tk slot w t3 (some s4') t5 u1 ∧ encs zs ++ [enc y] = encs zs1 ∧ zs1 ++ ys1.filter (hs slot) = I.filter (hs slot) ∧ zs1.length + ys1.length ≤ I.length := fun hy u => by
          rw [hy, if_pos rfl] at hf
          exact ⟨by rw [sizeLine_eq, encs_len]; omega, ys, zs ++ [y], u, rfl, rfl, encs_snoc, by simpa using hf, by simp; omega⟩
        cases y with
        | hold hh z b =>
          by_cases hz : z = slot
          · have := take (decide_eq_true hz) none
            simp [enc, hz] at this ⊢
            exact this
          · have := skip (decide_eq_false hz) none
            simp [enc, hz] at this ⊢
            exact this
        | group b =>
          have := skip rfl none
          simp [enc] at this ⊢
          exact this
        | tryS b =>
          have := skip rfl none
          simp [enc] at this ⊢
          exact this
        | take a b =>
          have := skip rfl none
          simp [enc] at this ⊢
          exact this
        | pass =>
          have := skip rfl none
          simp [enc] at this ⊢
          exact this
        | stop =>
          have := skip rfl none
          simp [enc] at this ⊢
          exact this
        | call b =>
          have := skip rfl none
          simp [enc] at this ⊢
          exact this
  unfold hasT
  rcases h4 with rfl | rfl
  · simp [-eqS_l]
    exact key _
  · simp [-eqS_l]
    exact key _
end
section
variable {Q : R → List S → Prop} {E : Exn → List S → Prop}
theorem ins_len {w : List St} {G : List Nat} : (insD w G).length ≤ w.length := by
  cases G with
  | nil => exact Nat.le_refl _
  | cons g r =>
    rw [insD, List.length_drop]
    omega
theorem ins_ok {n : Nat} {w : List St} {G : List Nat} (h : oks n w = true) : oks n (insD w G) = true := by
  cases G with
  | nil => exact h
  | cons g r =>
    rw [insD]
    rw [oks_all, List.all_eq_true] at h ⊢
    exact fun x hx => h x (List.mem_of_mem_drop hx)
theorem law_tidy_w {n : Nat} {xs : List St} (ho : oks n xs = true) (hn : n < 24) (hz : szs xs ≤ 1000000) (h : Q (.d (.bl ((tws [] xs).all chk))) [.d (.tup (encs xs))]) : wF F__law_is_tidy [.d (.tup (encs xs))] Q E := by
  have hw := tw_oks (m := n) n [] xs ho (Nat.le_refl _) (by rw [oks])
  unfold F__law_is_tidy
  rw [G_law_tidy, wF_fn]
  refine ⟨rfl, ?_⟩
  simp
  refine ways_w (m := n) (w := []) (by omega) 24 n ho hn (by simp; omega) hz ?_
  simp
  refine wS.forI (fun r ρ => ∃ ts t1 t2 t3 t4 t5 t6, r = ts.map encP ∧ ρ = [some (.d (.tup (encs xs))), t1, t2, t3, t4, t5, t6] ∧ (∀ p ∈ ts, p ∈ tws [] xs) ∧ (tws [] xs).all chk = ts.all chk) ⟨tws [] xs, none, none, none, none, none, none, rfl, rfl, fun p hp => hp, rfl⟩ ?_ ?_
  · rintro ρ ⟨ts, t1, t2, t3, t4, t5, t6, e, rfl, _, hp⟩
    cases ts with
    | cons y ys => cases e
    | nil =>
      simp
      rw [hp] at h
      exact h
  · rintro x r ρ ⟨ts, t1, t2, t3, t4, t5, t6, e, rfl, hm, hp⟩
    cases ts with
    | nil => cases e
    | cons p ts =>
      cases e
      obtain ⟨hw1, hw2, hw3⟩ := hw p (hm p List.mem_cons_self)
      obtain ⟨⟨tk, slot⟩, w⟩ := p
      simp at hw1 hw2 hw3
      have hc : chk ((tk, slot), w) = ttR slot w.reverse := rfl
      rw [List.all_cons, hc] at hp
      simp [encP]
      refine cmp_w (by omega) fun t3 t5 t6 => ?_
      simp
      refine wh_w hw1 (by omega) (by omega) fun G L => ?_
      have lc := left_chk (slot := slot) L
      simp
      have fin : ∀ s4 t5 t6, s4 = S.d (.lst (encs (insD w G))) ∨ s4 = S.o (.lst (encs (insD w G))) → wE hasT (rT (some (S.d (.tup (encs xs)))) tk slot w (some (.o (.lst (nats G)))) (some s4) t5 t6) (fun b ρ1 => if b = true then wP (outs [true] [S.d (.tup (encs xs))] ρ1) fun o => Q (.d (.bl false)) o else ∃ ts_1, List.map encP ts = List.map encP ts_1 ∧ (∃ x x_1 x_2 x_3 x_4 x_5, ρ1 = [some (S.d (.tup (encs xs))), x, x_1, x_2, x_3, x_4, x_5]) ∧ (∀ (a b : Str) (b_1 : List St), ((a, b), b_1) ∈ ts_1 → ((a, b), b_1) ∈ tws [] xs) ∧ (tws [] xs).all chk = ts_1.all chk) fun x ρ1 => wP (outs [true] [S.d (.tup (encs xs))] ρ1) fun o => E x o := by
        intro s4 t5 t6 hs4
        refine has_w hs4 (ins_ok hw1) (by omega) (Nat.le_trans ins_len (by omega)) fun s t5 t6 => ?_
        cases hA : (insD w G).any (hs slot) with
        | true =>
          rw [hA] at lc
          simp
          rw [hp, lc] at h
          exact h
        | false =>
          rw [hA] at lc
          simp
          rw [lc] at hp
          exact ⟨ts, rfl, fun a b c hm' => hm _ (List.mem_cons_of_mem _ hm'), by simpa using hp⟩
      refine ins_w L (fun hG => ?_) fun hG => ?_
      · subst hG
        simp
        exact fin _ _ _ (.inl rfl)
      · simp
        exact fin _ _ _ (.inr rfl)
end
end Dn.k49
end

section
set_option Elab.async false
set_option linter.all false
set_option maxRecDepth 100000
set_option maxHeartbeats 4000000
namespace Dn.k49
open PySem PySem.Spec L2 Dn
/-! blocks that are drawn -/
section
variable {a b c : Int} {Q : R → List S → Prop} {E : Exn → List S → Prop}
theorem nmB_of {z : Str} (h : Nm 40 z) : nmB z = true := by
  unfold nmB
  rw [h.1, decide_eq_true h.2]
  rfl
theorem pick_n {ds : List D} (hN : Nms 6 ds) (h : ∀ z a' b' c', nmB z = true → Q (.d (.str z)) [bx a' b' c', .d (.lst ds)]) : wF F__law_pick [bx a b c, .d (.lst ds)] Q E :=
  pick_l hN.1 (by have := hN.2.1; omega) fun x hx a b c => by
    obtain ⟨z, rfl, hz⟩ := hN.2.2 x hx
    exact h z a b c (nmB_of hz)
theorem block_w {wd : D} (hw : WorldD wd) : ∀ (N d room : Nat) {a b c : Int} {Q : R → List S → Prop} {E : Exn → List S → Prop}, 0 < d → d ≤ N → d < 24 → room ≤ 1000 → (∀ xs a' b' c', oks d xs = true → szs xs ≤ room → Q (.d (.tup (encs xs))) [bx a' b' c', .d wd, .d (.int (d : Nat)), .d (.int (room : Nat))]) →
    wF (F__law_block N) [bx a b c, .d wd, .d (.int (d : Nat)), .d (.int (room : Nat))] Q E
  | 0, d, room, a, b, c, Q, E, h0, h1, _, _, _ => by omega
  | N + 1, d, room, a, b, c, Q, E, h0, h1, h24, hr, h => by
    obtain ⟨hns, sls, rfl, hhs, hss⟩ := hw
    rw [F__law_block, G__law_block, wF_fn]
    refine ⟨rfl, ?_⟩
    simp [bx]
    refine wS.whlI (fun m ρ => ∃ a b c ys t6 t7 t8 t9 t10, ρ = [some (bx a b c), some (.d (.tup [.lst hns, .lst sls])), some (.d (.int (d : Nat))), some (.d (.int (room : Nat))), some (.o (.lst (encs ys))), some (.d (.int (m : Nat))), t6, t7, t8, t9, t10] ∧ oks d ys = true ∧ szs ys + m = room) (m := room) ⟨a, b, c, [], none, none, none, none, none, by rw [encs]; rfl, by rw [oks], by simp⟩ (by omega) ?_
    rintro m ρ ⟨a, b, c, ys, t6, t7, t8, t9, t10, rfl, hy, hm⟩
    have hyl := len_szs ys
    have done : ∀ a b c, Q (.d (.tup (encs ys))) [bx a b c, .d (.tup [.lst hns, .lst sls]), .d (.int (d : Nat)), .d (.int (room : Nat))] := fun a b c => h ys a b c hy (by omega)
    simp [bx]
    by_cases hm0 : 0 < m
    · simp [hm0]
      refine take_w (m := 7) (by omega) (by omega) fun go a b c g0 g1 => ?_
      simp [bx]
      by_cases hgo : 0 < go
      · simp [hgo]
        refine pick_n hhs fun hand a b c hh => ?_
        simp [bx]
        refine pick_n hss fun spot a b c hs => ?_
        simp [bx]
        refine take_w (m := 12) (by omega) (by omega) fun form a b c f0 f1 => ?_
        simp [bx]
        have len : (encs ys).length < sizeLine := by rw [encs_len, sizeLine_eq]; omega
        have fin3 : ∀ (one : St) (e : D) (a b c k : Int), enc one = e → oks d [one] = true → szs [one] ≤ m → k = (szs [one] : Nat) → ∃ m', m' < m ∧ ∃ a1 b1 c1 ys1, ((a = a1 ∧ b = b1 ∧ c = c1) ∧ encs ys ++ [e] = encs ys1 ∧ (m : Int) - k = (m' : Nat)) ∧ oks d ys1 = true ∧ szs ys1 + m' = room := fun one e a b c k he ho hs hk => by
          have h1 := szS_pos one
          have h2 : szs [one] = szS one := by simp
          refine ⟨m - szs [one], by omega, a, b, c, ys ++ [one], ⟨⟨rfl, rfl, rfl⟩, by rw [← he]; exact encs_snoc, by omega⟩, by rw [oks_app, hy, ho]; rfl, by rw [szs_app]; omega⟩
        by_cases hf : form < 6 ∧ 1 < d
        · obtain ⟨hf, hd⟩ := hf
          rw [if_pos hf, if_pos (by omega)]
          refine take_w (m := (m : Int)) (by omega) (by omega) fun j a b c j0 j1 => ?_
          obtain ⟨j, rfl⟩ := Int.eq_ofNat_of_zero_le j0
          simp [bx]
          rw [show ((d : Nat) : Int) - 1 = ((d - 1 : Nat) : Int) by omega]
          refine block_w ⟨hns, sls, rfl, hhs, hss⟩ N (d - 1) j (by omega) (by omega) (by omega) (by omega) fun zs a b c oz sz => ?_
          simp [bx]
          have oh : oks d [St.hold hand spot zs] = true ∧ oks d [St.group zs] = true ∧ oks d [St.tryS zs] = true := by
            cases d with
            | zero => omega
            | succ d =>
              rw [Nat.add_sub_cancel] at oz
              simp [ok, hh, hs, oz, oks]
              omega
          have hsz : szs [St.hold hand spot zs] = 1 + szs zs ∧ szs [St.group zs] = 1 + szs zs ∧ szs [St.tryS zs] = 1 + szs zs := by simp [szS]
          have hform : form = 0 ∨ form = 1 ∨ form = 2 ∨ form = 3 ∨ form = 4 ∨ form = 5 := by omega
          rcases hform with rfl | rfl | rfl | rfl | rfl | rfl
          · simp
            refine ⟨len, size_w 24 d (xs := [St.hold hand spot zs]) oh.1 (by omega) (by omega) ?_⟩
            simp [szS]
            exact fin3 (St.hold hand spot zs) _ _ _ _ _ (by rw [enc]) oh.1 (by omega) (by simp [szS])
          · simp
            refine ⟨len, size_w 24 d (xs := [St.hold hand spot zs]) oh.1 (by omega) (by omega) ?_⟩
            simp [szS]
            exact fin3 (St.hold hand spot zs) _ _ _ _ _ (by rw [enc]) oh.1 (by omega) (by simp [szS])
          · simp
            refine ⟨len, size_w 24 d (xs := [St.group zs]) oh.2.1 (by omega) (by omega) ?_⟩
            simp [szS]
            exact fin3 (St.group zs) _ _ _ _ _ (by rw [enc]) oh.2.1 (by omega) (by simp [szS])
          · simp
            refine ⟨len, size_w 24 d (xs := [St.group zs]) oh.2.1 (by omega) (by omega) ?_⟩
            simp [szS]
            exact fin3 (St.group zs) _ _ _ _ _ (by rw [enc]) oh.2.1 (by omega) (by simp [szS])
          · simp
            refine ⟨len, size_w 24 d (xs := [St.group zs]) oh.2.1 (by omega) (by omega) ?_⟩
            simp [szS]
            exact fin3 (St.group zs) _ _ _ _ _ (by rw [enc]) oh.2.1 (by omega) (by simp [szS])
          · simp
            refine ⟨len, size_w 24 d (xs := [St.tryS zs]) oh.2.2 (by omega) (by omega) ?_⟩
            simp [szS]
            exact fin3 (St.tryS zs) _ _ _ _ _ (by rw [enc]) oh.2.2 (by omega) (by simp [szS])
        · have oh : oks d [St.take hand spot] = true ∧ oks d [St.pass] = true ∧ oks d [St.stop] = true ∧ oks d [St.call spot] = true := by
            cases d with
            | zero => omega
            | succ d => simp [ok, hh, hs, oks]
          have hsz : szs [St.take hand spot] = 1 ∧ szs [St.pass] = 1 ∧ szs [St.stop] = 1 ∧ szs [St.call spot] = 1 := by simp [szS]
          have other : ∀ (X1 X2 : Prop) , (¬ (form < 6 ∧ 1 < d) → X2) → (if form < 6 then (if (1 : Int) < (d : Int) then X1 else X2) else X2) := fun X1 X2 hX => by
            have hX := hX hf
            split
            · split
              · exact absurd ⟨by assumption, by omega⟩ hf
              · exact hX
            · exact hX
          refine other _ _ fun _ => ?_
          by_cases hf9 : form < 9
          · rw [if_pos hf9]
            refine ⟨len, size_w 24 d (xs := [St.take hand spot]) oh.1 (by omega) (by omega) ?_⟩
            simp [szS]
            exact fin3 (St.take hand spot) _ _ _ _ _ (by rw [enc]) oh.1 (by omega) (by simp [szS])
          · rw [if_neg hf9]
            have hform : form = 9 ∨ form = 10 ∨ form = 11 := by omega
            rcases hform with rfl | rfl | rfl
            · simp
              refine ⟨len, size_w 24 d (xs := [St.pass]) oh.2.1 (by omega) (by omega) ?_⟩
              simp [szS]
              exact fin3 (St.pass) _ _ _ _ _ (by rw [enc]) oh.2.1 (by omega) (by simp [szS])
            · simp
              refine ⟨len, size_w 24 d (xs := [St.stop]) oh.2.2.1 (by omega) (by omega) ?_⟩
              simp [szS]
              exact fin3 (St.stop) _ _ _ _ _ (by rw [enc]) oh.2.2.1 (by omega) (by simp [szS])
            · simp
              refine ⟨len, size_w 24 d (xs := [St.call spot]) oh.2.2.2 (by omega) (by omega) ?_⟩
              simp [szS]
              exact fin3 (St.call spot) _ _ _ _ _ (by rw [enc]) oh.2.2.2 (by omega) (by simp [szS])
      · simp [hgo]
        exact done a b c
    · simp [hm0]
      exact done a b c
end
end Dn.k49
end

section
set_option Elab.async false
set_option linter.all false
set_option maxRecDepth 100000
set_option maxHeartbeats 4000000
namespace Dn.k49
open PySem PySem.Spec L2 Dn
section
variable {a b c : Int} {Q : R → List S → Prop} {E : Exn → List S → Prop}
theorem enc1 (x : St) : [enc x] = encs [x] := by rw [encs_cons, encs]
theorem szs1 (x : St) : szs [x] = szS x := by simp
theorem tower_w {wd : D} (hw : WorldD wd) (h : ∀ xs a' b' c', oks 7 xs = true → szs xs ≤ 40 → Q (.d (.tup (encs xs))) [bx a' b' c', .d wd]) : wF F__law_tower [bx a b c, .d wd] Q E := by
  obtain ⟨hns, sls, rfl, hhs, hss⟩ := hw
  unfold F__law_tower G__law_tower
  rw [wF_fn]
  refine ⟨rfl, ?_⟩
  simp [bx]
  refine pick_n hhs fun hand a b c hh => ?_
  simp [bx]
  refine pick_n hss fun spot a b c hs => ?_
  simp [bx]
  refine take_w (m := 7) (by omega) (by omega) fun t a b c t0 t1 => ?_
  obtain ⟨t, rfl⟩ := Int.eq_ofNat_of_zero_le t0
  simp [bx]
  refine ⟨by omega, ?_⟩
  refine wS.forI (fun r ρ => ∃ a b c xs u3 u4 u5 u6 u7, ρ = [some (bx a b c), some (.d (.tup [.lst hns, .lst sls])), some (.d (.tup (encs xs))), u3, u4, u5, u6, u7] ∧ r.length ≤ 6 ∧ oks (7 - r.length) xs = true ∧ szs xs ≤ 1 + 3 * (6 - r.length)) ⟨a, b, c, [.take hand spot], none, none, none, none, none, by rw [← enc1, enc]; rfl, by simp; omega, ?_, ?_⟩ ?_ ?_
  · refine oks_mono (n := 1) (by simp [ok, oks, hh, hs]) (by simp; omega)
  · simp [szS]
  · rintro ρ ⟨a, b, c, xs, u3, u4, u5, u6, u7, rfl, _, ho, hz⟩
    simp [bx]
    exact h xs a b c (by simpa using ho) (by simp at hz; omega)
  · rintro x r ρ ⟨a, b, c, xs, u3, u4, u5, u6, u7, rfl, hl, ho, hz⟩
    simp at hl ho hz
    simp [bx]
    refine take_w (m := 5) (by omega) (by omega) fun form a b c f0 f1 => ?_
    simp [bx]
    refine pick_n hhs fun hand a b c hh => ?_
    simp [bx]
    refine pick_n hss fun spot a b c hs => ?_
    simp [bx]
    have sides : ∀ y ∈ [D.tup [], D.tup [D.tup [D.str "pass"]], D.tup [], D.tup [D.tup [D.str "call", D.str spot]]], ∃ zs, y = .tup (encs zs) ∧ oks 1 zs = true ∧ szs zs ≤ 1 := by
      intro y hy
      simp at hy
      rcases hy with rfl | rfl | rfl | rfl
      · exact ⟨[], by rw [encs], by rw [oks], by simp⟩
      · exact ⟨[.pass], by rw [← enc1, enc], by simp [ok, oks], by simp [szS]⟩
      · exact ⟨[], by rw [encs], by rw [oks], by simp⟩
      · exact ⟨[.call spot], by rw [← enc1, enc], by simp [ok, oks, hs], by simp [szS]⟩
    refine pick_o (by simp) (by simp) fun y1 hy1 a b c => ?_
    obtain ⟨z1, rfl, o1, s1⟩ := sides y1 hy1
    simp [bx]
    have l0 := len_szs xs
    have l1 := len_szs z1
    refine ⟨by rw [encs_len, encs_len, sizeLine_eq]; omega, ?_⟩
    refine pick_o (by simp) (by simp) fun y2 hy2 a b c => ?_
    obtain ⟨z2, rfl, o2, s2⟩ := sides y2 hy2
    have l2 := len_szs z2
    simp [bx]
    refine ⟨by rw [encs_len, encs_len, encs_len, sizeLine_eq]; omega, ?_⟩
    have k1 : 1 ≤ 6 - r.length := by omega
    have big : oks (6 - r.length) (z1 ++ (xs ++ z2)) = true := by
      rw [oks_app, oks_app, oks_mono o1 k1, oks_mono o2 k1, ho]
      rfl
    have bsz : szs (z1 ++ (xs ++ z2)) ≤ szs xs + 2 := by
      rw [szs_app, szs_app]
      omega
    have e7 : 7 - r.length = (6 - r.length) + 1 := by omega
    have el : encs z1 ++ (encs xs ++ encs z2) = encs (z1 ++ (xs ++ z2)) := by rw [encs_app, encs_app]
    rw [el]
    have fin : ∀ (one : St) (e : D), enc one = e → ok (7 - r.length) one = true → szS one ≤ szs xs + 3 → ∃ a1 b1 c1 ys, ((a = a1 ∧ b = b1 ∧ c = c1) ∧ [e] = encs ys) ∧ r.length ≤ 6 ∧ oks (7 - r.length) ys = true ∧ szs ys ≤ 1 + 3 * (6 - r.length) := fun one e he ho hs => ⟨a, b, c, [one], ⟨⟨rfl, rfl, rfl⟩, by rw [← enc1, he]⟩, by omega, by rw [oks_cons, ho]; rfl, by rw [szs1]; omega⟩
    have h6 : 0 < 6 - r.length := by omega
    by_cases f2 : form < 2
    · rw [if_pos f2]
      refine fin (.hold hand spot (z1 ++ (xs ++ z2))) _ (by rw [enc]) ?_ (by rw [szS]; omega)
      rw [e7]
      simp [ok, hh, hs, big]
      omega
    · rw [if_neg f2]
      by_cases f4 : form < 4
      · rw [if_pos f4]
        refine fin (.group (z1 ++ (xs ++ z2))) _ (by rw [enc]) ?_ (by rw [szS]; omega)
        rw [e7]
        simp [ok, big]
        omega
      · rw [if_neg f4]
        refine fin (.tryS (z1 ++ (xs ++ z2))) _ (by rw [enc]) ?_ (by rw [szS]; omega)
        rw [e7]
        simp [ok, big]
        omega
end
end Dn.k49
end

section
set_option Elab.async false
set_option linter.all false
set_option maxRecDepth 100000
set_option maxHeartbeats 4000000
namespace Dn.k49
open PySem PySem.Spec L2 Dn
def isN : St → Bool
  | .hold _ _ _ => true
  | .group _ => true
  | .tryS _ => true
  | .take _ _ => false
  | .pass => false
  | .stop => false
  | .call _ => false
def nix : Nat → List St → List Nat
  | _, [] => []
  | k, x :: xs => if isN x = true then k :: nix (k + 1) xs else nix (k + 1) xs
theorem nix_mem : ∀ (xs : List St) (k : Nat), ∀ i ∈ nix k xs, k ≤ i ∧ ∃ y, xs[i - k]? = some y ∧ isN y = true
  | [], _, i, h => by simp [nix] at h
  | x :: xs, k, i, h => by
    have ih := nix_mem xs (k + 1)
    rw [nix] at h
    have up : i ∈ nix (k + 1) xs → k ≤ i ∧ ∃ y, (x :: xs)[i - k]? = some y ∧ isN y = true := fun h => by
      obtain ⟨h1, b, h2⟩ := ih i h
      refine ⟨by omega, b, ?_⟩
      rw [show i - k = (i - (k + 1)) + 1 by omega]
      simpa using h2
    split at h
    · rename_i hg
      rcases List.mem_cons.mp h with rfl | h
      · exact ⟨Nat.le_refl _, x, by simp, hg⟩
      · exact up h
    · exact up h
theorem nix_len : ∀ (xs : List St) (k : Nat), (nix k xs).length ≤ xs.length
  | [], _ => by simp [nix]
  | x :: xs, k => by
    have := nix_len xs (k + 1)
    rw [nix]
    split <;> simp <;> omega
section
variable {a b c : Int} {Q : R → List S → Prop} {E : Exn → List S → Prop} {Er : Exn → Env → Prop}
def cmpN : DE := xLc (itD (xVar 2) kEnumA) [4, 5] (gTp [(gNm 4), (gNm 5)]) (tB (o2 (o2 (xVar 5) (xC (.int 0)) kIx) (xTup [(xC (.str "hold")), (xC (.str "group")), (xC (.str "try"))]) kIn)) (xVar 4)
theorem cmpN_w {xs : List St} {s0 s1 u3 u4 u5 u6 : Option S} {P : R → Env → Prop} (hl : xs.length ≤ 1000) (h : ∀ u4 u5, P (.o (.lst (nats (nix 0 xs)))) [s0, s1, some (.d (.tup (encs xs))), u3, u4, u5, u6]) :
    wE cmpN [s0, s1, some (.d (.tup (encs xs))), u3, u4, u5, u6] P Er := by
  unfold cmpN
  have e0 := en_eq xs 0
  rw [Int.natCast_zero] at e0
  simp
  rw [encs_len, e0]
  refine wE.compI (fun r acc ρ => ∃ k ys u v G, r = en k ys ∧ ρ = [s0, s1, some (.d (.tup (encs xs))), u3, u, v, u6] ∧ acc = nats G ∧ G ++ nix k ys = nix 0 xs ∧ G.length + ys.length ≤ xs.length) ⟨0, xs, u4, u5, [], rfl, rfl, rfl, rfl, by simp⟩ ?_ ?_
  · rintro acc ρ ⟨k, ys, u, v, G, e, rfl, rfl, hG, _⟩
    cases ys with
    | cons y ys => rw [en] at e; cases e
    | nil =>
      simp [nix] at hG
      subst hG
      exact h u v
  · rintro x r acc ρ ⟨k, ys, u, v, G, e, rfl, rfl, hG, hGl⟩
    cases ys with
    | nil => rw [en] at e; cases e
    | cons y ys =>
      rw [en] at e
      cases e
      rw [nix] at hG
      simp at hGl
      have skip : isN y = false → ∃ k1 ys1, en (k + 1) ys = en k1 ys1 ∧ ∃ G1, nats G = nats G1 ∧ G1 ++ nix k1 ys1 = nix 0 xs ∧ G1.length + ys1.length ≤ xs.length := fun hy => by
        rw [hy] at hG
        exact ⟨k + 1, ys, rfl, G, rfl, hG, by omega⟩
      have take : isN y = true → (nats G).length < sizeLine ∧ ∃ k1 ys1, en (k + 1) ys = en k1 ys1 ∧ ∃ G1, nats G ++ [.int (k : Nat)] = nats G1 ∧ G1 ++ nix k1 ys1 = nix 0 xs ∧ G1.length + ys1.length ≤ xs.length := fun hy => by
        rw [hy, if_pos rfl] at hG
        refine ⟨by rw [sizeLine_eq]; simp [nats]; omega, k + 1, ys, rfl, G ++ [k], by simp [nats], by simpa using hG, by simp; omega⟩
      cases y with
      | group b =>
        simp [enc]
        exact take rfl
      | hold hh s b =>
        simp [enc]
        exact take rfl
      | tryS b =>
        simp [enc]
        exact take rfl
      | take a b =>
        simp [enc]
        exact skip rfl
      | pass =>
        simp [enc]
        exact skip rfl
      | stop =>
        simp [enc]
        exact skip rfl
      | call b =>
        simp [enc]
        exact skip rfl
theorem encs_cutTo {xs : List St} {i : Nat} : cut (encs xs) none (some (i : Int)) = encs (xs.take i) := by rw [cut_to, encs_take]
theorem encs_cutFrom {xs : List St} {i : Nat} : cut (encs xs) (some (i : Int)) none = encs (xs.drop i) := by rw [cut_from, encs_drop]
theorem szs_take {xs : List St} {i j : Nat} (h : i ≤ j) : szs (xs.take i) + szs (xs.drop j) ≤ szs xs := by
  have e : xs = xs.take i ++ ((xs.drop i).take (j - i) ++ xs.drop j) := by
    have e1 : xs.drop j = (xs.drop i).drop (j - i) := by rw [List.drop_drop]; congr 1; omega
    rw [e1, List.take_append_drop, List.take_append_drop]
  have := congrArg szs e
  rw [szs_app, szs_app] at this
  omega
theorem oks_sub {n : Nat} {xs ys : List St} (h : oks n xs = true) (hs : ∀ y ∈ ys, y ∈ xs) : oks n ys = true := by
  rw [oks_all, List.all_eq_true] at h ⊢
  exact fun y hy => h y (hs y hy)
def tailN (Fp Ft : FD) : DS := (sSeq (sPar [4, 5] [(dCall Ft [(xVar 0), (o2 (oN [(xVar 2)] kLen) (xC (.int 1)) kAdd)] []), (xTup [(xC (.str "take")), (dCall Fp [(xVar 0), (o2 (xVar 1) (xC (.int 0)) kIx)] []), (dCall Fp [(xVar 0), (o2 (xVar 1) (xC (.int 1)) kIx)] [])])])
    (sSeq (sRet (o2 (o2 (xSl (xVar 2) eNo (eI (xVar 4))) (o2 (xLst [(xTup [(xTup [(xC (.str "pass"))])]), (xTup [(xVar 5)]), (xTup [])]) (dCall Ft [(xVar 0), (xC (.int 3))] []) kIx) kAdd) (xSl (xVar 2) (eI (o2 (xVar 4) (dCall Ft [(xVar 0), (xC (.int 2))] []) kAdd)) eNo) kAdd))
    sSkip))
def ifN (Fp Fn : FD) : DS := (sSeq (sSet 4 (dCall Fp [(xVar 0), (xVar 3)] []))
    (sSeq (sSet 6 (dCall Fn [(xVar 0), (xVar 1), (o2 (o2 (xVar 2) (xVar 4) kIx) (o1 (xC (.int 1)) kNeg) kIx)] []))
    (sSeq (sRet (o2 (o2 (xSl (xVar 2) eNo (eI (xVar 4))) (xTup [(o2 (xSl (o2 (xVar 2) (xVar 4) kIx) eNo (eI (o1 (xC (.int 1)) kNeg))) (xTup [(xVar 6)]) kAdd)]) kAdd) (xSl (xVar 2) (eI (o2 (xVar 4) (xC (.int 1)) kAdd)) eNo) kAdd))
    sSkip)))
theorem G_near (Fp Ft Fn : FD) : G__law_near Fp Ft Fn = sSeq (sSet 3 cmpN) (sSeq (sIf (tAn (tB (o2 (xVar 3) (xLst []) kNe)) (tB (o2 (dCall Ft [(xVar 0), (xC (.int 3))] []) (xC (.int 0)) kGt))) (ifN Fp Fn) sSkip) (tailN Fp Ft)) := rfl
theorem tail_w {hns sls : List D} {xs : List St} {d : Nat} {u3 u4 u5 u6 : Option S} {P : Ctl → Env → Prop} (hhs : Nms 6 hns) (hss : Nms 6 sls) (h0 : 0 < d) (ho : oks d xs = true) (hz : szs xs ≤ 900)
    (h : ∀ ys a' b' c' u3 u4 u5 u6, oks d ys = true → szs ys ≤ szs xs + 1 → P (.rt (.d (.tup (encs ys)))) [some (bx a' b' c'), some (.d (.tup [.lst hns, .lst sls])), some (.d (.tup (encs xs))), u3, u4, u5, u6]) :
    wS (tailN F__law_pick F__law_take) [some (bx a b c), some (.d (.tup [.lst hns, .lst sls])), some (.d (.tup (encs xs))), u3, u4, u5, u6] P := by
  have hl := len_szs xs
  unfold tailN
  simp [bx, encs_len]
  refine take_w (m := (xs.length : Int) + 1) (by omega) (by omega) fun i a b c i0 i1 => ?_
  obtain ⟨i, rfl⟩ := Int.eq_ofNat_of_zero_le i0
  simp [bx]
  refine pick_n hhs fun hand a b c hh => ?_
  simp [bx]
  refine pick_n hss fun spot a b c hs => ?_
  simp [bx]
  refine take_w (m := 3) (by omega) (by omega) fun k a b c k0 k1 => ?_
  have mid : ∃ zs, oks d zs = true ∧ szs zs ≤ 1 ∧ atI [D.tup [D.tup [D.str "pass"]], D.tup [D.tup [D.str "take", D.str hand, D.str spot]], D.tup []] k = some (.tup (encs zs)) := by
    have hk : k = 0 ∨ k = 1 ∨ k = 2 := by omega
    have o1 : oks 1 [St.pass] = true ∧ oks 1 [St.take hand spot] = true := by simp [ok, oks, hh, hs]
    rcases hk with rfl | rfl | rfl
    · exact ⟨[.pass], oks_mono o1.1 h0, by simp [szS], by rw [← enc1, enc]; simp⟩
    · exact ⟨[.take hand spot], oks_mono o1.2 h0, by simp [szS], by rw [← enc1, enc]; simp⟩
    · exact ⟨[], by rw [oks], by simp, by rw [encs]; simp⟩
  obtain ⟨zs, oz, sz, ez⟩ := mid
  have lz := len_szs zs
  simp [bx, ez]
  have s1 := cut_len (encs xs) none (some (i : Int))
  rw [encs_len] at s1
  refine ⟨by rw [encs_len, sizeLine_eq]; omega, ?_⟩
  refine take_w (m := 2) (by omega) (by omega) fun j a b c j0 j1 => ?_
  obtain ⟨j, rfl⟩ := Int.eq_ofNat_of_zero_le j0
  simp [bx]
  have s2 := cut_len (encs xs) (some ((i : Int) + (j : Int))) none
  rw [encs_len] at s2
  refine ⟨by rw [encs_len, sizeLine_eq]; omega, ?_⟩
  have e : cut (encs xs) none (some (i : Int)) ++ (encs zs ++ cut (encs xs) (some ((i : Int) + (j : Int))) none) = encs (xs.take i ++ (zs ++ xs.drop (i + j))) := by
    rw [encs_cutTo, ← Int.natCast_add, encs_cutFrom, encs_app, encs_app]
  rw [e]
  refine h _ a b c _ _ _ _ ?_ ?_
  · rw [oks_app, oks_app, oz, oks_sub ho fun y hy => List.mem_of_mem_take hy, oks_sub ho fun y hy => List.mem_of_mem_drop hy]
    rfl
  · have := szs_take (xs := xs) (show i ≤ i + j by omega)
    rw [szs_app, szs_app]
    omega
theorem near_w {wd : D} (hw : WorldD wd) : ∀ (N d : Nat) {xs : List St} {a b c : Int} {Q : R → List S → Prop} {E : Exn → List S → Prop}, 0 < d → d ≤ N → d < 24 → oks d xs = true → szs xs ≤ 900 → (∀ ys a' b' c', oks d ys = true → szs ys ≤ szs xs + 1 → Q (.d (.tup (encs ys))) [bx a' b' c', .d wd, .d (.tup (encs xs))]) →
    wF (F__law_near N) [bx a b c, .d wd, .d (.tup (encs xs))] Q E
  | 0, d, xs, a, b, c, Q, E, h0, h1, _, _, _, _ => by omega
  | N + 1, d, xs, a, b, c, Q, E, h0, h1, h24, ho, hz, h => by
    have hw' := hw
    obtain ⟨hns, sls, rfl, hhs, hss⟩ := hw
    have hl := len_szs xs
    rw [F__law_near, wF_fn]
    refine ⟨rfl, ?_⟩
    rw [G_near, wS_q, wS_set]
    have tl : ∀ a' b' c' u3 u4 u5 u6 (P : Ctl → Env → Prop), (∀ ys a' b' c' u3 u4 u5 u6, oks d ys = true → szs ys ≤ szs xs + 1 → P (.rt (.d (.tup (encs ys)))) [some (bx a' b' c'), some (.d (.tup [.lst hns, .lst sls])), some (.d (.tup (encs xs))), u3, u4, u5, u6]) →
        wS (tailN F__law_pick F__law_take) [some (bx a' b' c'), some (.d (.tup [.lst hns, .lst sls])), some (.d (.tup (encs xs))), u3, u4, u5, u6] P := fun a' b' c' u3 u4 u5 u6 P hP => tail_w hhs hss h0 ho hz hP
    refine cmpN_w (by omega) fun u4 u5 => ?_
    simp [-eqS_l, bx]
    refine ne_nil (shp_nats _) (by omega) ?_
    rw [nats_emp]
    cases he : (nix 0 xs).isEmpty with
    | true =>
      simp
      refine tl _ _ _ _ _ _ _ _ fun ys a b c u3 u4 u5 u6 oy sy => ?_
      simp [bx]
      exact h ys a b c oy sy
    | false =>
      simp
      refine take_w (m := 3) (by omega) (by omega) fun go a b c g0 g1 => ?_
      simp [bx]
      by_cases hg : 0 < go
      · rw [if_pos hg]
        have hne : nix 0 xs ≠ [] := by
          intro z
          rw [z] at he
          cases he
        have hnl := nix_len xs 0
        unfold ifN
        simp [bx]
        refine pick_o (ds := nats (nix 0 xs)) (by simpa [nats] using hne) (by simp [nats]; omega) fun v hv a b c => ?_
        obtain ⟨i, hi, rfl⟩ := List.mem_map.mp hv
        obtain ⟨_, y, hy, hN⟩ := nix_mem xs 0 i hi
        rw [Nat.sub_zero] at hy
        have hat := at_encs hy
        have hil : i < xs.length := (List.getElem?_eq_some_iff.mp hy).1
        have hoy : ok d y = true := by
          rw [oks_all, List.all_eq_true] at ho
          exact ho _ (List.mem_of_getElem? hy)
        have hsplit : xs = xs.take i ++ (y :: xs.drop (i + 1)) := by
          have : xs[i] = y := (List.getElem?_eq_some_iff.mp hy).2
          rw [← this, ← List.drop_eq_getElem_cons hil, List.take_append_drop]
        have hsum : szs (xs.take i) + (szS y + szs (xs.drop (i + 1))) = szs xs := by
          have := congrArg szs hsplit
          rw [szs_app, szs_cons] at this
          omega
        have hsy : szS y ≤ szs xs := by omega
        simp [bx, hat]
        have s1 := cut_len (encs xs) none (some (i : Int))
        have s2 := cut_len (encs xs) (some ((i : Int) + 1)) none
        rw [encs_len] at s1 s2
        have fin : ∀ (one : St) (e : D) (a b c : Int), enc one = e → ok d one = true → szS one ≤ szS y + 1 →
            (cut (encs xs) none (some (i : Int))).length + 1 ≤ sizeLine ∧ (cut (encs xs) none (some (i : Int))).length + 1 + (cut (encs xs) (some ((i : Int) + 1)) none).length ≤ sizeLine ∧
              Q (R.d (.tup (cut (encs xs) none (some (i : Int)) ++ e :: cut (encs xs) (some ((i : Int) + 1)) none))) [S.o (.lst [.int a, .int b, .int c]), .d (.tup [.lst hns, .lst sls]), .d (.tup (encs xs))] := fun one e a b c he1 ho1 hs1 => by
          refine ⟨by rw [sizeLine_eq]; omega, by rw [sizeLine_eq]; omega, ?_⟩
          have ee : cut (encs xs) none (some (i : Int)) ++ e :: cut (encs xs) (some ((i : Int) + 1)) none = encs (xs.take i ++ one :: xs.drop (i + 1)) := by
            rw [encs_cutTo, show ((i : Int) + 1) = ((i + 1 : Nat) : Int) by omega, encs_cutFrom, ← he1, ← encs_cons, encs_app]
          rw [ee]
          refine h _ a b c ?_ ?_
          · rw [oks_app, oks_cons, ho1, oks_sub ho fun y hy => List.mem_of_mem_take hy, oks_sub ho fun y hy => List.mem_of_mem_drop hy]
            rfl
          · rw [szs_app, szs_cons]
            omega
        cases y with
        | hold hh s bb =>
          cases d with
          | zero => omega
          | succ d =>
            simp [ok] at hoy
            simp [enc]
            refine near_w hw' N d (by omega) (by omega) (by omega) hoy.2.2.2 (by rw [szS] at hsy; omega) fun zs a b c oz sz => ?_
            simp [bx, hat, enc, cut_init]
            refine ⟨by decide, ?_⟩
            refine fin (St.hold hh s zs) _ a b c (by rw [enc]) ?_ (by rw [szS, szS]; omega)
            simp [ok, hoy, oz]
        | group bb =>
          cases d with
          | zero => omega
          | succ d =>
            simp [ok] at hoy
            simp [enc]
            refine near_w hw' N d (by omega) (by omega) (by omega) hoy.2 (by rw [szS] at hsy; omega) fun zs a b c oz sz => ?_
            simp [bx, hat, enc, cut_init]
            refine ⟨by decide, ?_⟩
            refine fin (St.group zs) _ a b c (by rw [enc]) ?_ (by rw [szS, szS]; omega)
            simp [ok, hoy, oz]
        | tryS bb =>
          cases d with
          | zero => omega
          | succ d =>
            simp [ok] at hoy
            simp [enc]
            refine near_w hw' N d (by omega) (by omega) (by omega) hoy.2 (by rw [szS] at hsy; omega) fun zs a b c oz sz => ?_
            simp [bx, hat, enc, cut_init]
            refine ⟨by decide, ?_⟩
            refine fin (St.tryS zs) _ a b c (by rw [enc]) ?_ (by rw [szS, szS]; omega)
            simp [ok, hoy, oz]
        | take a b => cases hN
        | pass => cases hN
        | stop => cases hN
        | call b => cases hN
      · rw [if_neg hg]
        refine tl _ _ _ _ _ _ _ _ fun ys a b c u3 u4 u5 u6 oy sy => ?_
        simp [bx]
        exact h ys a b c oy sy
end
end Dn.k49
end

section
set_option Elab.async false
set_option linter.all false
set_option maxRecDepth 100000
set_option maxHeartbeats 4000000
namespace Dn.k49
open PySem PySem.Spec L2 Dn
section
variable {a b c : Int} {Q : R → List S → Prop} {E : Exn → List S → Prop}
theorem pick2 {x y : D} {i : Int} (h : i = 0 ∨ i = 1) : ∃ z, (z = x ∨ z = y) ∧ atI [x, y] i = some z := by
  rcases h with rfl | rfl
  · exact ⟨x, .inl rfl, by simp⟩
  · exact ⟨y, .inr rfl, by simp⟩
def restB : DS := (sSeq (sSet 3 (o2 (o2 (o2 (o2 (o2 (xVar 2) (xC (.int 2147483629)) kMod) (xC (.int 48281)) kMul) (o2 (xC (.int 40693)) (xVar 1) kMul) kAdd) (xC (.int 2147483629)) kMod) (xC (.int 1)) kAdd))
    (sSeq (sRet (xLst [(o2 (xLst [(xC (.int 0)), (xVar 2)]) (oN [(o2 (xVar 2) (o2 (xC (.int 10)) (xC (.int 18)) kPow) kGe)] kInt) kIx), (xVar 3), (xC (.int 0))]))
    sSkip))
theorem G_box : G__law_box = (sSeq (sSet 2 (o2 (o2 (xC (.int 6089)) (xVar 1) kMul) (xC (.int 57)) kAdd))
    (sSeq (sIf (tB (o2 (xVar 1) (oN [(xVar 0)] kLen) kLt)) (sSeq (sSet 2 (oN [(o2 (xVar 0) (xVar 1) kIx)] kAbs))
    sSkip) (sSeq (sIf (tB (o2 (oN [(xVar 0)] kLen) (xC (.int 0)) kGt)) (sSeq (sSet 2 (o2 (xVar 2) (o2 (o2 (oN [(o2 (xVar 0) (o2 (xVar 1) (oN [(xVar 0)] kLen) kMod) kIx)] kAbs) (xC (.int 2147483629)) kMod) (xC (.int 69653)) kMul) kAdd))
    sSkip) sSkip)
    sSkip)) restB)) := rfl
theorem box_w {ns : List Int} {k : Nat} (hk : k < 10) (h : ∀ a b c, Q (.o (.lst [.int a, .int b, .int c])) [.d (.src ns), .d (.int (k : Nat))]) : wF F__law_box [.d (.src ns), .d (.int (k : Nat))] Q E := by
  unfold F__law_box
  rw [G_box, wF_fn]
  refine ⟨rfl, ?_⟩
  have fin : ∀ cell : Int, wS restB [some (.d (.src ns)), some (.d (.int (k : Nat))), some (.d (.int cell)), none] fun c ρ => wR [true, true] [.d (.src ns), .d (.int (k : Nat))] c ρ Q E := by
    intro cell
    unfold restB
    simp
    refine ⟨.inr rfl, .inl rfl, ?_⟩
    obtain ⟨z, hz, e⟩ := pick2 (x := D.int 0) (y := D.int cell) (i := if (1000000000000000000 : Int) ≤ cell then 1 else 0) (by split <;> simp)
    rw [e]
    rcases hz with rfl | rfl
    · exact h _ _ _
    · exact h _ _ _
  simp
  refine ⟨.inl rfl, ?_⟩
  by_cases h1 : k < ns.length
  · rw [if_pos (by omega)]
    obtain ⟨x, _, ex⟩ := at_ex (xs := ns) (i := (k : Int)) (by omega) (by omega)
    rw [ex]
    simp
    exact fin _
  · rw [if_neg (by omega)]
    by_cases h2 : 0 < ns.length
    · rw [if_pos (by omega)]
      refine ⟨by omega, ?_⟩
      obtain ⟨x, _, ex⟩ := at_ex (xs := ns) (i := (k : Int) % (ns.length : Int)) (Int.emod_nonneg _ (by omega)) (Int.emod_lt_of_pos _ (by omega))
      rw [ex]
      simp
      exact ⟨.inr rfl, fin _⟩
    · rw [if_neg (by omega)]
      exact fin _
theorem k_repr_b {b : Bool} {P : R → Prop} (h : P (.d (.str (if b = true then "True" else "False")))) : wP (kRepr [.bl b]) P := by
  cases b
  · exact h
  · exact h
/-- a block that is asked about -/
def Blk (T : Nat) (x : D) : Prop := ∃ xs, x = .tup (encs xs) ∧ oks 8 xs = true ∧ szs xs ≤ T
theorem Blk.mono {S T : Nat} {x : D} (h : Blk S x) (hT : S ≤ T) : Blk T x := by
  obtain ⟨xs, a, b, c⟩ := h
  exact ⟨xs, a, b, Nat.le_trans c hT⟩
def askS : DS := (sSeq (sSet 7 (dCall F__law_tower [(xVar 2), (xVar 3)] []))
    (sSeq (sExp (mO (xVar 4) [(o2 (xVar 7) (o2 (dCall F__law_tower [(xVar 2), (xVar 3)] []) (dCall F__law_take [(xVar 2), (xC (.int 2))] []) kMul) kAdd)] oAppend))
    (sSeq (sExp (mO (xVar 4) [(dCall (F__law_near 24) [(xVar 2), (xVar 3), (dCall F__law_pick [(xVar 2), (xVar 4)] [])] [])] oAppend))
    sSkip)))
def cmpS : DS := (sSeq (sIf (tB (o2 (oN [(dCall F_is_tidy [(xVar 6)] [])] kRepr) (oN [(dCall F__law_is_tidy [(xVar 6)] [])] kRepr) kNe)) (sSeq (sRet (xC (.bl false)))
    sSkip) sSkip)
    sSkip)
theorem cmp_ok {T : Nat} {x : D} (hx : Blk T x) (hT : T ≤ 1000) {u0 u1 u2 u3 u4 u5 u7 : Option S} {P : Ctl → Env → Prop} (h : P .nx [u0, u1, u2, u3, u4, u5, some (.d x), u7]) : wS cmpS [u0, u1, u2, u3, u4, u5, some (.d x), u7] P := by
  obtain ⟨xs, rfl, ho, hz⟩ := hx
  have e : ads [] xs = (tws [] xs).all chk := by
    have := ad_tws [] xs
    simpa using this
  unfold cmpS
  simp
  refine is_tidy_w ho (by omega) ?_
  simp
  refine k_repr_b ?_
  simp
  refine law_tidy_w ho (by omega) (by omega) ?_
  simp
  rw [← e]
  refine k_repr_b ?_
  simp
  exact h
end
end Dn.k49
end

section
set_option Elab.async false
set_option linter.all false
set_option maxRecDepth 100000
set_option maxHeartbeats 4000000
namespace Dn.k49
open PySem PySem.Spec L2 Dn
section
variable {a b c : Int}
theorem ask_ok {T : Nat} {A : List D} {wd : D} (hw : WorldD wd) (hA : ∀ x ∈ A, Blk T x) (hT : 80 ≤ T) (hT2 : T ≤ 500) (hl0 : A ≠ []) (hl : A.length ≤ 500) {u0 u1 u5 u6 u7 : Option S} {P : Ctl → Env → Prop}
    (h : ∀ a b c x y u7, Blk (T + 1) x → Blk (T + 1) y → P .nx [u0, u1, some (bx a b c), some (.d wd), some (.o (.lst (A ++ [x, y]))), u5, u6, u7]) : wS askS [u0, u1, some (bx a b c), some (.d wd), some (.o (.lst A)), u5, u6, u7] P := by
  unfold askS
  simp [bx]
  refine tower_w hw fun xs a b c ox sx => ?_
  have lx := len_szs xs
  simp [bx]
  refine tower_w hw fun ys a b c oy sy => ?_
  have ly := len_szs ys
  simp [bx]
  refine take_w (m := 2) (by omega) (by omega) fun i a b c i0 i1 => ?_
  simp [bx]
  have hi : i = 0 ∨ i = 1 := by omega
  have hm : i.toNat * ys.length ≤ 40 := by
    rcases hi with rfl | rfl
    · simp
    · simp; omega
  have rep : ∃ zs, (List.replicate i.toNat (encs ys)).flatten = encs zs ∧ oks 8 zs = true ∧ szs zs ≤ 40 := by
    rcases hi with rfl | rfl
    · exact ⟨[], by rw [encs]; rfl, by rw [oks], by simp⟩
    · exact ⟨ys, by simp, oks_mono oy (by omega), sy⟩
  obtain ⟨zs, ez, oz, sz⟩ := rep
  have lz := len_szs zs
  rw [ez]
  have b1 : Blk (T + 1) (.tup (encs xs ++ encs zs)) := ⟨xs ++ zs, by rw [encs_app], by rw [oks_app, oz, oks_mono ox (by omega)]; rfl, by rw [szs_app]; omega⟩
  refine ⟨⟨by omega, by omega, by rw [encs_len]; omega⟩, by rw [encs_len, encs_len, sizeLine_eq]; omega, by rw [sizeLine_eq]; omega, ?_⟩
  have hA1 : ∀ x ∈ A ++ [D.tup (encs xs ++ encs zs)], Blk T x := by
    intro x hx
    rcases List.mem_append.mp hx with hx | hx
    · exact hA x hx
    · rw [List.mem_singleton.mp hx]
      exact ⟨xs ++ zs, by rw [encs_app], by rw [oks_app, oz, oks_mono ox (by omega)]; rfl, by rw [szs_app]; omega⟩
  refine pick_o (ds := A ++ [D.tup (encs xs ++ encs zs)]) (by simp) (by simp; omega) fun v hv a b c => ?_
  obtain ⟨vs, rfl, ov, sv⟩ := hA1 v hv
  simp [bx]
  refine near_w hw 24 8 (by omega) (by omega) (by omega) ov (by omega) fun ws a b c ow sw => ?_
  simp [bx]
  refine ⟨by rw [sizeLine_eq]; omega, ?_⟩
  have := h a b c (.tup (encs xs ++ encs zs)) (.tup (encs ws)) (some (.d (.tup (encs xs)))) b1 ⟨ws, rfl, ow, by omega⟩
  simpa [bx] using this
theorem law_eq : F_law = fnF [true] 8 (sSeq (sFor (itN [(oN [(xC (.int 2)), (oN [(xC (.int 4)), (oN [(xVar 0)] kLen)] kMin2)] kMax2)] kRng1) (gNm 1) (sSeq (sSet 2 (dCall F__law_box [(xVar 0), (xVar 1)] []))
    (sSeq (sSet 3 (dCall F__law_world [(xVar 2), (xC (.int 3)), (xC (.int 3))] []))
    (sSeq (sSet 4 (xLst [(xTup []), (dCall (F__law_block 24) [(xVar 2), (xVar 3), (xC (.int 8)), (xC (.int 40))] [])]))
    (sSeq (sExp (mO (xVar 4) [(dCall (F__law_block 24) [(xVar 2), (xVar 3), (xC (.int 8)), (xC (.int 12))] [])] oAppend))
    (sSeq (sFor (itN [(xC (.int 12))] kRng1) (gNm 5) askS)
    (sSeq (sFor (itSeq (o2 (dCall F__law_mixed [(xVar 2), (xVar 4)] []) (xVar 4) kAdd)) (gNm 6) cmpS)
    sSkip)))))))
    (sSeq (sRet (xC (.bl true)))
    sSkip)) := rfl
theorem law_pure (ns : List Int) (hns : ns.length ≤ 63) : ∃ outs, F_law [.d (.src ns)] = some (.ok (.d (.bl true)), outs) := by
  have key : wF F_law [.d (.src ns)] (fun r _ => r = .d (.bl true)) fun _ _ => False := by
    rw [law_eq, wF_fn]
    refine ⟨rfl, ?_⟩
    simp
    refine ⟨by split <;> split <;> omega, ?_⟩
    refine wS.forI (fun r ρ => ∃ u1 u2 u3 u4 u5 u6 u7, ρ = [some (.d (.src ns)), u1, u2, u3, u4, u5, u6, u7] ∧ ∀ x ∈ r, ∃ k : Nat, k < 10 ∧ x = .int (k : Nat)) ⟨none, none, none, none, none, none, none, rfl, fun x hx => ?_⟩ ?_ ?_
    · obtain ⟨k, hk, rfl⟩ := rng_mem hx
      refine ⟨k, ?_, by simp⟩
      have : ((if 2 < (if (ns.length : Int) < 4 then (ns.length : Int) else 4) then (if (ns.length : Int) < 4 then (ns.length : Int) else 4) else 2) : Int) ≤ 4 := by split <;> split <;> omega
      omega
    · rintro ρ ⟨u1, u2, u3, u4, u5, u6, u7, rfl, _⟩
      simp
    · rintro x r ρ ⟨u1, u2, u3, u4, u5, u6, u7, rfl, hr⟩
      obtain ⟨k, hk, rfl⟩ := hr x List.mem_cons_self
      have hr' : ∀ x ∈ r, ∃ k : Nat, k < 10 ∧ x = D.int (k : Nat) := fun y hy => hr y (List.mem_cons_of_mem _ hy)
      simp
      refine box_w hk fun a b c => ?_
      simp
      refine world_w fun wd a b c hw => ?_
      simp [bx]
      refine block_w hw 24 8 40 (by omega) (by omega) (by omega) (by omega) fun b1 a b c o1 s1 => ?_
      simp [bx]
      refine block_w hw 24 8 12 (by omega) (by omega) (by omega) (by omega) fun b2 a b c o2 s2 => ?_
      simp [bx]
      refine ⟨by decide, ?_⟩
      refine wS.forI (fun q ρ => ∃ a b c A t5 t6 t7, ρ = [some (.d (.src ns)), some (.d (.int (k : Nat))), some (bx a b c), some (.d wd), some (.o (.lst A)), t5, t6, t7] ∧ q.length ≤ 12 ∧ A ≠ [] ∧ A.length + 2 * q.length ≤ 40 ∧ ∀ x ∈ A, Blk (100 - q.length) x) ⟨a, b, c, _, u5, u6, u7, rfl, by simp, by simp, by simp, ?_⟩ ?_ ?_
      · intro x hx
        simp at hx
        rcases hx with rfl | rfl | rfl
        · exact ⟨[], by rw [encs], by rw [oks], by simp⟩
        · exact ⟨b1, rfl, o1, by simp; omega⟩
        · exact ⟨b2, rfl, o2, by simp; omega⟩
      · rintro ρ ⟨a, b, c, A, t5, t6, t7, rfl, _, hA0, hAl, hA⟩
        simp at hAl hA
        simp [bx]
        refine mixed_w (.inr rfl) (by omega) fun ys a b c hp => ?_
        simp [bx]
        have hyl := hp.length_eq
        refine ⟨by rw [sizeLine_eq]; omega, ?_⟩
        refine wS.forI (fun q ρ => ∃ u2 u3 u4 t5 t6 t7, ρ = [some (.d (.src ns)), some (.d (.int (k : Nat))), u2, u3, u4, t5, t6, t7] ∧ ∀ x ∈ q, Blk 100 x) ⟨_, _, _, _, _, _, rfl, fun x hx => ?_⟩ ?_ ?_
        · rcases List.mem_append.mp hx with hx | hx
          · exact hA x (hp.mem_iff.mp hx)
          · exact hA x hx
        · rintro ρ ⟨u2, u3, u4, t5, t6, t7, rfl, _⟩
          simp
          exact hr'
        · rintro x q ρ ⟨u2, u3, u4, t5, t6, t7, rfl, hq⟩
          simp
          refine cmp_ok (hq x List.mem_cons_self) (by omega) ?_
          simp
          exact fun y hy => hq y (List.mem_cons_of_mem _ hy)
      · rintro x q ρ ⟨a, b, c, A, t5, t6, t7, rfl, hql, hA0, hAl, hA⟩
        simp at hql hAl
        simp
        refine ask_ok hw hA (by simp; omega) (by omega) hA0 (by omega) fun a b c x y u7 hx hy => ?_
        simp [bx]
        refine ⟨a, b, c, A ++ [x, y], ⟨⟨rfl, rfl, rfl⟩, rfl⟩, by omega, by simp, by simp; omega, fun z hz => ?_⟩
        simp at hz
        rcases hz with hz | rfl | rfl
        · exact (hA z hz).mono (by simp; omega)
        · exact hx.mono (by simp; omega)
        · exact hy.mono (by simp; omega)
  obtain ⟨r, o, e, rfl⟩ := key.run
  exact ⟨o, e⟩
end
end Dn.k49
end

section
set_option Elab.async false
set_option linter.all false
set_option maxRecDepth 100000
set_option maxHeartbeats 0
open PySem PySem.W PySem.Calls PyProof.Rows
namespace Dn.k49
open PySem PySem.Spec PyProof.Rows L2 Dn
def dd (x : Str) (i : Nat) : He.DefD := ⟨(x, none), x, x, defArgs (top i), defBody (top i), defScope (top i), [], []⟩
def fns : List He.DefD := [dd "block_of" 2, dd "has_pass" 3, dd "is_take_tidy" 5, dd "are_takes_tidy" 4, dd "is_tidy" 6, dd "_law_box" 8, dd "_law_take" 9, dd "_law_pick" 10, dd "_law_mixed" 11, dd "_law_names" 12, dd "_law_world" 13, dd "_law_size" 14, dd "_law_block" 15, dd "_law_takes_with_ways" 16, dd "_law_passes" 17, dd "_law_is_tidy" 18, dd "_law_tower" 19, dd "_law_near" 20, dd "law" 21]
def fas : List He.Fa := [.glo "block_of", .glo "has_pass", .glo "is_take_tidy", .glo "are_takes_tidy", .glo "is_tidy", .glo "_law_box", .glo "_law_take", .glo "_law_pick", .glo "_law_mixed", .glo "_law_names", .glo "_law_world", .glo "_law_size", .glo "_law_block", .glo "_law_takes_with_ways", .glo "_law_passes", .glo "_law_is_tidy", .glo "_law_tower", .glo "_law_near", .glo "law", .free "abs", .free "enumerate", .free "int", .free "len", .free "list", .free "max", .free "min", .free "range", .free "repr", .free "sum", .free "tuple", .glo "WITH_BLOCK"]
def exs (K : Fg) : Bool := He.tupB K "WITH_BLOCK" [.str "hold", .str "group", .str "try"]
abbrev hk : PySem.W.Hook := He.hookX 4 fas fns [] [] exs
def ob (s : PySem.W.SharedT) : He.AlX := He.obsX 4 fas fns [] [] exs (HandSHeadRun.getT s)
theorem ob_eq (s : PySem.W.SharedT) : ob s = hk.obs s.abs := He.obsX_eq (HandSHeadRun.getT_eq s)
def names : List Str := ["__name__", "WITH_BLOCK", "block_of", "has_pass", "are_takes_tidy", "is_take_tidy", "is_tidy", "_law_box", "_law_take", "_law_pick", "_law_mixed", "_law_names", "_law_world", "_law_size", "_law_block", "_law_takes_with_ways", "_law_passes", "_law_is_tidy", "_law_tower", "_law_near"]
abbrev Rw : PySem.W.OpenRow := PySem.W.OpenLaw.row PySem.Challenge.rw_asfound_k49_tidy_programs
theorem run (w : World) : HandSHeadRun.RunEq Rw (PySem.W.view Rw.prog [21]) hk ob 2000 names w := by
  intro os
  kernel_rfl
theorem facts {P : Program} {w : World} {K : Fg} {h : Heap} {mg : Str → Option Value} {fA : Addr} (X : K.In h) (G : h.Ns mainGlobals mg) (hfa : mg ("law" : Str) = some (.ref fA)) (c : He.SaysD fas fns K) (ce : exs K = true) :
    ∃ fd : FuncData, (∀ (s : Shared) (v : Value), BindsTo s fd ⟨[v], []⟩ [("_law_script", v)]) ∧ ∀ base : Heap, K.In base → base.Ns mainGlobals mg → FnG P w K mg base 51 fA fd ["_law_script"] (spD K mg 1 F_law) := by
  have R : Fr K mg := ⟨He.free_ok X G (c.fact 19 (f := .free "abs") rfl), He.free_ok X G (c.fact 20 (f := .free "enumerate") rfl), He.free_ok X G (c.fact 21 (f := .free "int") rfl), He.free_ok X G (c.fact 22 (f := .free "len") rfl), He.free_ok X G (c.fact 23 (f := .free "list") rfl), He.free_ok X G (c.fact 24 (f := .free "max") rfl), He.free_ok X G (c.fact 25 (f := .free "min") rfl), He.free_ok X G (c.fact 26 (f := .free "range") rfl), He.free_ok X G (c.fact 27 (f := .free "repr") rfl), He.free_ok X G (c.fact 28 (f := .free "sum") rfl), He.free_ok X G (c.fact 29 (f := .free "tuple") rfl), ⟨.ref (He.ga K "WITH_BLOCK"), _, He.glo_ok X G (c.fact 30 (f := .glo "WITH_BLOCK") rfl), rfl, fun F => rep_tupB (vs := [.str "hold", .str "group", .str "try"]) (ce) rfl F⟩⟩
  obtain ⟨fd_block_of, D_block_of⟩ := c.def_ 0 (d := dd "block_of" 2) rfl
  obtain ⟨fd_has_pass, D_has_pass⟩ := c.def_ 1 (d := dd "has_pass" 3) rfl
  obtain ⟨fd_is_take_tidy, D_is_take_tidy⟩ := c.def_ 2 (d := dd "is_take_tidy" 5) rfl
  obtain ⟨fd_are_takes_tidy, D_are_takes_tidy⟩ := c.def_ 3 (d := dd "are_takes_tidy" 4) rfl
  obtain ⟨fd_is_tidy, D_is_tidy⟩ := c.def_ 4 (d := dd "is_tidy" 6) rfl
  obtain ⟨fd__law_box, D__law_box⟩ := c.def_ 5 (d := dd "_law_box" 8) rfl
  obtain ⟨fd__law_take, D__law_take⟩ := c.def_ 6 (d := dd "_law_take" 9) rfl
  obtain ⟨fd__law_pick, D__law_pick⟩ := c.def_ 7 (d := dd "_law_pick" 10) rfl
  obtain ⟨fd__law_mixed, D__law_mixed⟩ := c.def_ 8 (d := dd "_law_mixed" 11) rfl
  obtain ⟨fd__law_names, D__law_names⟩ := c.def_ 9 (d := dd "_law_names" 12) rfl
  obtain ⟨fd__law_world, D__law_world⟩ := c.def_ 10 (d := dd "_law_world" 13) rfl
  obtain ⟨fd__law_size, D__law_size⟩ := c.def_ 11 (d := dd "_law_size" 14) rfl
  obtain ⟨fd__law_block, D__law_block⟩ := c.def_ 12 (d := dd "_law_block" 15) rfl
  obtain ⟨fd__law_takes_with_ways, D__law_takes_with_ways⟩ := c.def_ 13 (d := dd "_law_takes_with_ways" 16) rfl
  obtain ⟨fd__law_passes, D__law_passes⟩ := c.def_ 14 (d := dd "_law_passes" 17) rfl
  obtain ⟨fd__law_is_tidy, D__law_is_tidy⟩ := c.def_ 15 (d := dd "_law_is_tidy" 18) rfl
  obtain ⟨fd__law_tower, D__law_tower⟩ := c.def_ 16 (d := dd "_law_tower" 19) rfl
  obtain ⟨fd__law_near, D__law_near⟩ := c.def_ 17 (d := dd "_law_near" 20) rfl
  obtain ⟨fd_law, D_law⟩ := c.def_ 18 (d := dd "law" 21) rfl
  have g_block_of := He.glo_ok X G (c.fact 0 (f := .glo "block_of") rfl)
  have g_has_pass := He.glo_ok X G (c.fact 1 (f := .glo "has_pass") rfl)
  have g_is_take_tidy := He.glo_ok X G (c.fact 2 (f := .glo "is_take_tidy") rfl)
  have g_are_takes_tidy := He.glo_ok X G (c.fact 3 (f := .glo "are_takes_tidy") rfl)
  have g_is_tidy := He.glo_ok X G (c.fact 4 (f := .glo "is_tidy") rfl)
  have g__law_box := He.glo_ok X G (c.fact 5 (f := .glo "_law_box") rfl)
  have g__law_take := He.glo_ok X G (c.fact 6 (f := .glo "_law_take") rfl)
  have g__law_pick := He.glo_ok X G (c.fact 7 (f := .glo "_law_pick") rfl)
  have g__law_mixed := He.glo_ok X G (c.fact 8 (f := .glo "_law_mixed") rfl)
  have g__law_names := He.glo_ok X G (c.fact 9 (f := .glo "_law_names") rfl)
  have g__law_world := He.glo_ok X G (c.fact 10 (f := .glo "_law_world") rfl)
  have g__law_size := He.glo_ok X G (c.fact 11 (f := .glo "_law_size") rfl)
  have g__law_block := He.glo_ok X G (c.fact 12 (f := .glo "_law_block") rfl)
  have g__law_takes_with_ways := He.glo_ok X G (c.fact 13 (f := .glo "_law_takes_with_ways") rfl)
  have g__law_passes := He.glo_ok X G (c.fact 14 (f := .glo "_law_passes") rfl)
  have g__law_is_tidy := He.glo_ok X G (c.fact 15 (f := .glo "_law_is_tidy") rfl)
  have g__law_tower := He.glo_ok X G (c.fact 16 (f := .glo "_law_tower") rfl)
  have g__law_near := He.glo_ok X G (c.fact 17 (f := .glo "_law_near") rfl)
  have g_law := He.glo_ok X G (c.fact 18 (f := .glo "law") rfl)
  have e := hfa.symm.trans g_law
  cases e
  refine ⟨fd_law, fun s v => (FunD.bindsA (ps := ["_law_script"]) D_law fun _ _ _ _ _ _ us hl => match us, hl with | [_], _ => rfl) s [v] rfl, fun base _ _ => ?_⟩
  have h_block_of : Has P w K mg base 1 "block_of" ["statement"] 1 F_block_of := ok_block_of (k := 0) D_block_of g_block_of R 
  have h_has_pass : Has P w K mg base 24 "has_pass" ["block"] 1 (F_has_pass 24) := ok_has_pass (k := 0) D_has_pass g_has_pass R  24
  have h_is_take_tidy : Has P w K mg base 25 "is_take_tidy" ["slot", "around"] 2 F_is_take_tidy := ok_is_take_tidy (k := 24) D_is_take_tidy g_is_take_tidy R (h_has_pass.mono (by decide))
  have h_are_takes_tidy : Has P w K mg base 49 "are_takes_tidy" ["block", "around"] 2 (F_are_takes_tidy 24) := ok_are_takes_tidy (k := 25) D_are_takes_tidy g_are_takes_tidy R (h_block_of.mono (by decide)) (h_is_take_tidy.mono (by decide)) 24
  have h_is_tidy : Has P w K mg base 50 "is_tidy" ["program"] 1 F_is_tidy := ok_is_tidy (k := 49) D_is_tidy g_is_tidy R (h_are_takes_tidy.mono (by decide))
  have h__law_box : Has P w K mg base 1 "_law_box" ["_law_script", "_law_k"] 2 F__law_box := ok__law_box (k := 0) D__law_box g__law_box R 
  have h__law_take : Has P w K mg base 1 "_law_take" ["_law_box_here", "_law_many"] 2 F__law_take := ok__law_take (k := 0) D__law_take g__law_take R 
  have h__law_pick : Has P w K mg base 2 "_law_pick" ["_law_box_here", "_law_items"] 2 F__law_pick := ok__law_pick (k := 1) D__law_pick g__law_pick R (h__law_take.mono (by decide))
  have h__law_mixed : Has P w K mg base 2 "_law_mixed" ["_law_box_here", "_law_items"] 2 F__law_mixed := ok__law_mixed (k := 1) D__law_mixed g__law_mixed R (h__law_take.mono (by decide))
  have h__law_names : Has P w K mg base 3 "_law_names" ["_law_box_here", "_law_many"] 2 F__law_names := ok__law_names (k := 2) D__law_names g__law_names R (h__law_mixed.mono (by decide)) (h__law_take.mono (by decide))
  have h__law_world : Has P w K mg base 4 "_law_world" ["_law_box_here", "_law_most_hands", "_law_most_slots"] 3 F__law_world := ok__law_world (k := 3) D__law_world g__law_world R (h__law_names.mono (by decide)) (h__law_take.mono (by decide))
  have h__law_size : Has P w K mg base 24 "_law_size" ["_law_block_here"] 1 (F__law_size 24) := ok__law_size (k := 0) D__law_size g__law_size R  24
  have h__law_block : Has P w K mg base 48 "_law_block" ["_law_box_here", "_law_world_here", "_law_deep", "_law_room"] 4 (F__law_block 24) := ok__law_block (k := 24) D__law_block g__law_block R (h__law_take.mono (by decide)) (h__law_pick.mono (by decide)) (h__law_size.mono (by decide)) 24
  have h__law_takes_with_ways : Has P w K mg base 24 "_law_takes_with_ways" ["_law_block_here", "_law_way"] 2 (F__law_takes_with_ways 24) := ok__law_takes_with_ways (k := 0) D__law_takes_with_ways g__law_takes_with_ways R  24
  have h__law_passes : Has P w K mg base 24 "_law_passes" ["_law_block_here"] 1 (F__law_passes 24) := ok__law_passes (k := 0) D__law_passes g__law_passes R  24
  have h__law_is_tidy : Has P w K mg base 25 "_law_is_tidy" ["_law_block_here"] 1 F__law_is_tidy := ok__law_is_tidy (k := 24) D__law_is_tidy g__law_is_tidy R (h__law_takes_with_ways.mono (by decide)) (h__law_passes.mono (by decide))
  have h__law_tower : Has P w K mg base 3 "_law_tower" ["_law_box_here", "_law_world_here"] 2 F__law_tower := ok__law_tower (k := 2) D__law_tower g__law_tower R (h__law_take.mono (by decide)) (h__law_pick.mono (by decide))
  have h__law_near : Has P w K mg base 26 "_law_near" ["_law_box_here", "_law_world_here", "_law_block_here"] 3 (F__law_near 24) := ok__law_near (k := 2) D__law_near g__law_near R (h__law_pick.mono (by decide)) (h__law_take.mono (by decide)) 24
  exact okG_law (k := 50) D_law g_law R (h__law_box.mono (by decide)) (h__law_world.mono (by decide)) (h__law_block.mono (by decide)) (h__law_tower.mono (by decide)) (h__law_mixed.mono (by decide)) (h__law_near.mono (by decide)) (h__law_pick.mono (by decide)) (h_is_tidy.mono (by decide)) (h__law_is_tidy.mono (by decide)) (h__law_take.mono (by decide))
theorem has_law (pure : ∀ ns : List Int, ns.length ≤ 63 → ∃ outs, F_law [.d (.src ns)] = some (.ok (.d (.bl true)), outs)) : PySem.Challenge.rw_asfound_k49_tidy_programs.Holds := by
  w_on; o_law
  refine HandSHeadRun.head_any (r := Rw) (q := PySem.W.view Rw.prog [21]) (H := hk) (ob := ob) (M := 2000) (loose := names) (d := HandSHeadRun.topDef Rw.prog 21) (kwd := []) ob_eq
    (by kernel_rfl) (fun s => by kernel_rfl) run (by kernel_rfl) (by kernel_rfl) (by kernel_rfl) (by rfl) (by first | assumption | decide +kernel) (by decide +kernel) ⟨rfl, rfl, rfl, rfl, rfl, by decide +kernel⟩ ?hw ?hc
  case hw => w_witness2
  case hc =>
    refine walk_G (l := PySem.Challenge.rw_asfound_k49_tidy_programs) (n := 63) (k := 51) (x := "_law_script") rfl (by decide) (by kernel_rfl) ⟨rfl, by decide, by decide⟩ ?F
    intro w mg fa h Y G hmg0
    obtain ⟨K, KX, c⟩ := Y
    have hmg : mg ("law" : PySem.Str) = some (.ref fa) := by
      have e : (HandSHeadRun.topDef Rw.prog 21).name = ("law" : PySem.Str) := by kernel_rfl
      rw [← e]
      exact hmg0
    obtain ⟨fd, hb, hF⟩ := facts (P := (PySem.Challenge.rw_asfound_k49_tidy_programs).prog) (w := w) KX G hmg c.t.d c.more
    exact ⟨K, fd, spD K mg 1 F_law, KX, hb, fun H a ns hl _ hS => (pure ns hl).elim fun outs e => entry hS e, hF⟩
end Dn.k49
end
open PySem PySem.W PySem.Calls PyProof.Rows
theorem PySem.Challenge.cw_asfound_k49_tidy_programs_holds : PySem.Challenge.rw_asfound_k49_tidy_programs.Holds := by
  exact Dn.k49.has_law Dn.k49.law_pure
