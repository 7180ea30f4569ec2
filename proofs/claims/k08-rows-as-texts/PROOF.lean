import PyProof.Rows.All
import Wide.All
import OpenK.AllK
import Wide.FinOn
import PyProof.EqAt
import PyProof.EqKinds
import PyProof.TupleCall
import HandS.ForMost
import HandS.Exc
import HandS.ExcOwn
import HandS.WordsExc
import HandS.Defaults
import HandS.CallSlots
import HandS.Deep
import HandS.TupAny
import HandS.Style
import HandS.Zip
import HandS.Text
import HandS.TupMul
import HandS.More
import PyProof.StrOps2
import PyProof.ReprRoads
import HandS.Comp
import PyProof.Draws
import PyProof.EnumMake
import HandS.Head2
import HandS.HeadEnd
import HandS.HeadHook4
import HandS.ExcInit
import HandS.ExcField
import HandS.ExcIs
import HandS.TryMany
import HandS.IsInst
import HandS.Dict
import HandS.DictTup
import HandS.WrittenGet
import KE.KUnpackStar
import HandS.Star
import HandS.Iter
import HandS.Sort
import HandS.SortOrd
import HandS.SortRule
import HandS.SortInts
import HandS.Conv
import KE.KDictCopyH
import HandS.Strs
import HandS.TupLe
import KE.KStateDown
import PyProof.StrLawsRepr
import PyProof.ListStr
import PyProof.Rows.StrJoinStr
import PySem.Challenge.RW_asfound_k08_rows_as_texts
section
set_option Elab.async false
set_option linter.all false
set_option maxRecDepth 100000
set_option maxHeartbeats 2000000
/-! Dn: a def's promise where nothing is being shown (repr wants to know that): FnG, its call, its rule, the law's end. -/
namespace Dn
open PySem PySem.Spec PyProof.Rows L2
structure FnG (P : Program) (w : World) (K : PySem.W.Frag) (mg : Str → Option Value) (base : Heap) (k : Nat) (f : Addr) (fd : FuncData) (ps : List Str) (sp : Sp) : Prop where
  len : ∀ vs H Q E, sp vs H Q E → vs.length = ps.length
  run : ∀ (A : Around) (outer : List PySem.Env) (s : Shared) (H : Hp) (args : Args) (us : List Value) (vs : List V) (Q : VK) (E : XK), Room k A → A.guards = some [] → Env0 P w K mg base A outer s H → BindsTo s fd args (ps.zip us) → Vals vs us →
    sp vs H Q E → codeAny (model P w) A (.call (.ref f) args) (CR (L2.CX P w) outer P w H s Q E) s
theorem FnG.mono {P : Program} {w : World} {K : PySem.W.Frag} {mg : Str → Option Value} {base : Heap} {j k : Nat} {f : Addr} {fd : FuncData} {ps : List Str} {sp : Sp} (F : FnG P w K mg base j f fd ps sp) (h : j ≤ k) : FnG P w K mg base k f fd ps sp :=
  ⟨F.len, fun A outer s H args us vs Q E hr => F.run A outer s H args us vs Q E (hr.mono h)⟩
section
variable {X : Cx} {k : Nat} {f : Addr} {fd : FuncData} {ps : List Str} {sp : Sp} {dvs : List V} {ds : List Value} {E : L2.St → XK} {x : Str} {p pos : Pos} {e : Expr} {es : List Expr} {t : TA}
theorem run_G {pins : List (Addr × Obj)} {σ : L2.St} {H : Hp} {s : Shared} {Q : VK} {us : List Value} {vs : List V} (F : FnG X.prog X.w X.K X.mg X.base k f fd ps sp) (hr : Room k X.A) (hG : X.A.guards = some []) (hb : Binds X.K fd ps ds) (hd : Vals dvs ds)
    (hx : PassesAt (L2.CX X.prog X.w) X σ (E σ)) (I : Inv X pins σ H s) (r : Vals vs us) (h : sp (vs ++ dvs) H Q (E σ)) : wpAny (model X.prog X.w) X.A (call (.ref f) us) (EP X pins σ Q) X.xe s := by
  have r2 : Vals (vs ++ dvs) (us ++ ds) := r.append hd
  have hl : (us ++ ds).length = ps.length := r2.length.symm.trans (F.len _ _ _ _ h)
  refine wpAny_call (codeAny_mono (F.run X.A X.stack s H ⟨us, []⟩ (us ++ ds) (vs ++ dvs) Q (E σ) hr hG I.env0 (hb s us I.kIn hl) r2 h) fun r s' hq => ?_)
  rcases r with e | fl
  · exact hx pins H s e s' I hq
  · cases fl
    case ret u => exact I.after hq
    all_goals exact False.elim hq
theorem pe_callG (F : FnG X.prog X.w X.K X.mg X.base k f fd ps sp) (hr : Room k X.A) (hG : X.A.guards = some []) (hg : Gl X x) (hm : X.mg x = some (.ref f)) (hk : PySem.W.keepIn X.K (.ref f) = true) (hb : Binds X.K fd ps ds) (hd : Vals dvs ds)
    (hx : ∀ σ, PassesAt (L2.CX X.prog X.w) X σ (E σ)) (ha : PA X (e :: es) t) (hdb : (x == ("__debug__" : Str)) = false := by decide) (he : starEach (e :: es) X.env = (false, eval e X.env) :: starEach es X.env := by rfl)
    (hpl : (backTo pos (starEach es X.env)).any (·.1) = false := by rfl) : PE X (.Call (.Name x p) (e :: es) [] pos) (tCallSD sp dvs E t) :=
  ⟨fun pins s σ H Q I h => wpAny_Call_Name_kw (ld_glob I hg hm (PySem.W.callWith_K (h₀ := X.base) I.ok.mod.kin hk (thn (ha.run pos pins s σ H _ I h) fun us s1 ⟨vs, H1, I1, r, q⟩ => ⟨I1.kIn, run_G F hr hG hb hd (hx σ) I1 r q⟩) he hpl) hdb)⟩
end
/-- a def of the text keeps its promise, by its body's reading -/
theorem fn_G {P : Program} {w : World} {K : PySem.W.Frag} {mg : Str → Option Value} {base : Heap} {x qual : Str} {params : Arguments} {body : List Stmt} {scope : Scope} {dvs : List V} {kws : List (Str × V)} {f : Addr} {fd : FuncData} {N ps : List Str} {k : Nat} {sp : Sp}
    (Fn : FunD K x qual params body scope dvs kws f fd) (S : FnScope N ps scope) (len : ∀ vs H Q E, sp vs H Q E → vs.length = ps.length)
    (hbody : ∀ (cdv : Value) (A : Around) (outer : List PySem.Env) (s : Shared) (H : Hp) (vs : List V) (Q : VK) (E : XK), Room k (A.deeper (envOfC qual scope s.heap.objs.size f cdv)) → A.guards = some [] → sp vs H Q E →
      ∃ t, PSs (cxOf (L2.CX P w) P w K mg base N qual scope f cdv A outer s H E) body t ∧ t { nx := fun _ H' => Q .non H', rt := Q } (L2.start N vs) H) : FnG P w K mg base (k + 1) f fd ps sp := by
  obtain ⟨oc, od, dV, kV, doc, pm, an, cdv, ct, osl, rfl, lk, hcd, _, _⟩ := Fn.ex
  refine ⟨len, fun A outer s H args us vs Q E hr hG e0 hb r hsp => ?_⟩
  have hl := len _ _ _ _ hsp
  have KX : K.In s.heap := e0.mod.kin.keeps fun b o e => (e0.bs b o e).1
  have lim : s.heap.NoLimit := e0.mod.nolimit.keeps fun b o e => (e0.bs b o e).1
  have hkind : ∀ y ∈ ps.zip us, scope.names.lookup y.1 = some .local ∨ (scope.names.lookup y.1 = some .cell ∧ ((cellsFrom (s.heap.objs.size + 1) scope.names []).lookup y.1).isSome = true) := fun ⟨n, v⟩ hy =>
    (S.par n (List.of_mem_zip hy).1).imp id fun q => ⟨q, PySem.W.cellsFrom_some _ _ _ (.inl q)⟩
  refine codeAny_call_function hr.depth (KX _ _ lk) rfl S.co S.gen rfl (PySem.W.codeRec_of KX hcd) (hb _ _ _ _ ?_)
  refine wpAny_newFunctionEnv_cells S.kind hkind fun env he s1 x => ?_
  subst he
  refine ⟨lim.keeps x.toInCall.keep, codeAny_func ?_⟩
  obtain ⟨t, ht, hq⟩ := hbody cdv A outer s H vs Q E (hr.deeper _) hG hsp
  have I : Inv (cxOf (L2.CX P w) P w K mg base N qual scope f cdv A outer s H E) [] (L2.start N vs) H s1 := inv_start S hr.hd e0 hl r x
  refine wpAny_mono (ht.run [] s1 (L2.start N vs) H _ I hq) (fun fl s' hs => ?_) fun e s' hs => hs
  have fin : ∀ {σ' : L2.St} {H' : Hp} {v : V} {u : Value}, Inv (cxOf (L2.CX P w) P w K mg base N qual scope f cdv A outer s H E) [] σ' H' s' → RelV v u → Q v H' → CE outer P w H s Q u s' := fun {σ' H' v u} J rv q => ⟨v, H', J.os, J.bare, J.base, J.hok, rv, q⟩
  cases fl
  case ret u =>
    obtain ⟨v, σ', H', J, rv, q⟩ := hs
    exact fin J rv q
  case next =>
    obtain ⟨σ', H', J, q⟩ := hs
    exact fin (v := V.non) (u := Value.none) J rfl q
  all_goals
    obtain ⟨_, _, _, q⟩ := hs
    exact False.elim q
/-- the law's call at its entry -/
theorem call_G {P : Program} {w : World} {K : PySem.W.Frag} {mg mb : Str → Option Value} {k : Nat} {fa a : Addr} {fd : FuncData} {x : Str} {sp : Sp} {s₁ : Shared} {vs : List Value} {ns : List Int}
    (KX : K.In s₁.heap) (hns : s₁.heap.Ns mainGlobals mg) (hb : s₁.heap.Ns builtinsNs mb) (hbb : ∀ x : Str, x ≠ "__name__" → mb x = bootBuiltins x) (hlim : s₁.heap.NoLimit) (hg : s₁.gens = #[])
    (ha : s₁.heap.get? a = some { cls := .type "list", data := .seq vs.toArray }) (hi : PyProof.Rows.IntsAre vs ns) (hl : ns.length ≤ sizeLine) (hr : Room k callerA)
    (F : ∀ base : Heap, K.In base → base.Ns mainGlobals mg → FnG P w K mg base k fa fd [x] sp) (hbind : ∀ (s : Shared) (u : Value), BindsTo s fd ⟨[u], []⟩ [(x, u)])
    (hsp : ∀ H : Hp, Only H → SqL K H a (ns.map V.int) → sp [.ref a] H (fun v _ => v = .bl true) fun _ _ _ => False) :
    codeAny (model P w) callerA (.call (.ref fa) ⟨[.ref a], []⟩) (fun r s' => r = .ok (.ret (.bool true)) ∧ OldK s₁.heap s'.heap ∧ s'.os = s₁.os ∧ AllBare s'.gens) s₁ := by
  have rv := vals_ints hi
  have lenV := hi.length
  have core : ∀ H : Hp, Only H → SqL K H a (ns.map V.int) → HOk P w H s₁.heap → (∀ b, H b ≠ none → b = a) → (H a ≠ none → K.lookup a = none) →
      codeAny (model P w) callerA (.call (.ref fa) ⟨[.ref a], []⟩) (fun r s' => r = .ok (.ret (.bool true)) ∧ OldK s₁.heap s'.heap ∧ s'.os = s₁.os ∧ AllBare s'.gens) s₁ := by
    intro H hO hS hok hA hK
    have base_of : ∀ {b : Addr} {o : Obj}, s₁.heap.get? b = some o → H b = none → (hidT s₁.heap H).get? b = some o := fun e n => hidT_get e n
    have isA : ∀ {b : Addr} {u : HO}, H b = some u → b = a := fun {b u} q => hA b (by rw [q]; simp)
    have noA : ∀ {b : Addr} {o : Obj} {es : Array DictEntry} {ep : Nat}, s₁.heap.get? b = some o → o.data = .dict es ep → H b = none := fun {b o es ep} e d => by
      cases q : H b with
      | none => rfl
      | some u =>
        rw [isA q, ha] at e
        cases e
        cases d
    have nsK : ∀ {b : Addr} {m : Str → Option Value}, s₁.heap.Ns b m → (hidT s₁.heap H).Ns b m := fun {b m} ⟨o, es, ep, e, d, r⟩ => ⟨o, es, ep, base_of e (noA e d), d, r⟩
    have hKb : K.In (hidT s₁.heap H) := fun b o e => base_of (KX b o e) (by
      cases q : H b with
      | none => rfl
      | some u =>
        rw [isA q, hK (by rw [← isA q, q]; simp)] at e
        cases e)
    have hM : Mod K mg (hidT s₁.heap H) := ⟨hKb, nsK hns, ⟨mb, nsK hb, hbb⟩, let ⟨mc, h1, h2⟩ := hlim; ⟨mc, nsK h1, h2⟩⟩
    have e0 : Env0 P w K mg (hidT s₁.heap H) callerA [] s₁ H := ⟨rfl, hM, fun b o e => of_hidT e, Nat.le_of_eq (hidT_size _ _), trivial, fun b hb => absurd (show b ∈ ([] : List Addr) from hb) (by simp), hok, .of_eq hg⟩
    refine codeAny_mono ((F _ hKb (nsK hns)).run callerA [] s₁ H ⟨[.ref a], []⟩ [.ref a] [.ref a] _ _ hr rfl e0 (hbind s₁ (.ref a)) (.cons rfl .nil) (hsp H hO hS)) fun r s' h => ?_
    rcases r with e | fl
    · obtain ⟨_, _, _, _, _, _, _, _, _, _, _, _, z⟩ := h
      exact z.elim
    · cases fl
      case ret u =>
        obtain ⟨v, H', os, bare, un, hok', r', rfl⟩ := h
        obtain rfl : u = Value.bool true := r'
        refine ⟨rfl, OldK.of_keep fun b o e => ?_, os, bare⟩
        cases q : H b with
        | none => exact un.keep b o e q (by intro z; exact absurd (show b ∈ ([] : List Addr) from z) (by simp)) (by simp)
        | some u =>
          rcases hO b with z | ⟨ob, xs, z⟩
          · rw [q] at z
            cases z
          · obtain ⟨e1, _⟩ := hok b _ z
            obtain ⟨e2, _⟩ := hok' b _ (un.frzs b ob _ z)
            rw [e] at e1
            cases e1
            exact e2
      all_goals exact False.elim h
  cases hk : K.lookup a with
  | some o =>
    have e := KX a o hk
    rw [ha] at e
    cases e
    exact core (fun _ => none) (fun _ => .inl rfl) (.inr ⟨_, vs.toArray, _, hk, rfl, rfl, rfl, by rw [List.size_toArray, lenV]; exact hl, by simpa using rv⟩) (fun b u z => nomatch (show (none : Option HO) = some u from z)) (fun b z => absurd rfl z) fun z => absurd rfl z
  | none =>
    refine core (fun b => if b = a then some (.frz { cls := .type "list", data := .seq vs.toArray } (.lst (ns.map V.int))) else none) (fun b => ?_) (.inl (.inr ⟨{ cls := .type "list", data := .seq vs.toArray }, if_pos rfl⟩)) (fun b u z => ?_) (fun b z => ?_) fun _ => hk
    · by_cases hb : b = a
      · exact .inr ⟨_, _, if_pos hb⟩
      · exact .inl (if_neg hb)
    · by_cases hb : b = a
      · have z' := (if_pos hb).symm.trans z
        cases z'
        subst hb
        exact ⟨ha, by rw [List.length_map]; exact hl, vs, _, rv, ha⟩
      · exact nomatch (if_neg hb).symm.trans z
    · by_cases hb : b = a
      · exact hb
      · exact absurd (if_neg hb) z
/-- a law's end -/
theorem walk_G {l : PySem.W.OpenLaw} {n k : Nat} {q : Program} {loose : List Str} {XP : (Str → Option Value) → Heap → Prop} {YP : World → Heap → Prop} {d : DefRec} {x : Str}
    (hn : l.most = some n) (hn2 : n ≤ sizeLine) (hdf : d.params.defaults = []) (hr : Room k callerA)
    (F : ∀ (w : World) (mg : Str → Option Value) (fa : Addr) (h : Heap), YP w h → h.Ns mainGlobals mg → mg d.name = some (.ref fa) →
      ∃ (K : PySem.W.Frag) (fd : FuncData) (sp : Sp), K.In h ∧ (∀ (s : Shared) (u : Value), BindsTo s fd ⟨[u], []⟩ [(x, u)]) ∧
        (∀ (H : Hp) (a : Addr) (ns : List Int), ns.length ≤ n → Only H → SqL K H a (ns.map V.int) → sp [.ref a] H (fun v _ => v = .bl true) fun _ _ _ => False) ∧
        ∀ base : Heap, K.In base → base.Ns mainGlobals mg → FnG l.prog w K mg base k fa fd [x] sp) :
    PySem.W.WalkO q loose XP YP l.row.toRowW d [] (fun f vs => PySem.call f vs) :=
  Att.attach_call hn hdf fun w s₀ s₁ mg mb fa o pm cd doc a vs ns G Y ho hd hcd hmg hobj hints hlen hg => by
    obtain ⟨K, fd, sp, KX, hb, hsp, hF⟩ := F w mg fa _ Y G.T.g hmg
    exact call_G KX G.T.g G.T.b G.T.builtins G.T.nolimit hg hobj hints (Nat.le_trans hlen hn2) hr hF hb fun H hO hS => hsp H a ns hlen hO hS
end Dn
end

section
set_option Elab.async false
set_option linter.all false
set_option maxRecDepth 100000
set_option maxHeartbeats 2000000
/-! Dn: a law's text as functions on data. D: data; an environment maps slots to data (frozen) or to an own list or dict; a piece of syntax has a function on environments, and the piece runs as the function says. -/
namespace Dn
open PySem PySem.Spec L2

inductive D where
  | non | bl (b : Bool) | int (i : Int) | str (x : Str)
  | tup (xs : List D) | lst (xs : List D) | dK (kvs : List (Key × D)) | dT (kvs : List (List Key × D))
  | src (ns : List Int) | ktup (xs : List D)
instance : Inhabited D := ⟨.non⟩
/-- an exception of the text: its class's name, its fields -/
structure Exn where
  cls : Str
  fs : List (Str × D)

def Sub (F F' : Hp) : Prop := ∀ a o, F a = some o → F' a = some o
theorem Sub.refl {F : Hp} : Sub F F := fun _ _ h => h
theorem Sub.trans {F F1 F2 : Hp} (a : Sub F F1) (b : Sub F1 F2) : Sub F F2 := fun c o h => b c o (a c o h)
theorem Rd.sub {F F' : Hp} {a : Addr} {u : HO} (s : Sub F F') (h : Rd F a u) : Rd F' a u := by
  rcases h with h | ⟨o, h⟩
  · exact .inl (s _ _ h)
  · exact .inr ⟨o, s _ _ h⟩
theorem SqL.sub {K : PySem.W.Frag} {F F' : Hp} {a : Addr} {xs : List V} (s : Sub F F') (h : SqL K F a xs) : SqL K F' a xs := h.imp (Rd.sub s) id
theorem SqT.sub {K : PySem.W.Frag} {F F' : Hp} {a : Addr} {xs : List V} (s : Sub F F') (h : SqT K F a xs) : SqT K F' a xs := h.imp (Rd.sub s) id

/-- how an exception that a suite holds is known: j of it, its place, and what is never changed -/
structure Lk where
  p : Exn → Addr → Hp → Prop
  mono : ∀ e a F F', Sub F F' → p e a F → p e a F'
def Lk.no : Lk := ⟨fun _ _ _ => False, fun _ _ _ _ _ h => h⟩
structure KP where
  k : PySem.W.Frag
  j : Lk
instance : Coe KP PySem.W.Frag := ⟨KP.k⟩
abbrev Fg := KP
abbrev kj (J : Lk) (X : Cx) : KP := ⟨X.K, J⟩

mutual
/-- the value v is the data d; what it leans on stands in F, which is never changed -/
inductive Rep (K : Fg) (F : Hp) : D → V → Prop
  | non : Rep K F .non .non
  | bl (b : Bool) : Rep K F (.bl b) (.bl b)
  | int (i : Int) : Rep K F (.int i) (.int i)
  | str (x : Str) : Rep K F (.str x) (.str x)
  | tup {a : Addr} {xs : List V} {ds : List D} : F a = some (.tup xs) → Reps K F ds xs → Rep K F (.tup ds) (.ref a)
  | ktup {a : Addr} {xs : List V} {ds : List D} : SqT K F a xs → Reps K F ds xs → Rep K F (.ktup ds) (.ref a)
  | lst {a : Addr} {xs : List V} {ds : List D} : F a = some (.lst xs) → Reps K F ds xs → Rep K F (.lst ds) (.ref a)
  | src {a : Addr} {ns : List Int} : SqL K F a (ns.map V.int) → Rep K F (.src ns) (.ref a)
  | dK {a : Addr} {vs : List (Key × V)} {kvs : List (Key × D)} : F a = some (.dK vs) → vs.map (·.1) = kvs.map (·.1) → Reps K F (kvs.map (·.2)) (vs.map (·.2)) → Rep K F (.dK kvs) (.ref a)
  | dT {a : Addr} {vs : List (List Key × V)} {kvs : List (List Key × D)} : F a = some (.dT vs) → vs.map (·.1) = kvs.map (·.1) → Reps K F (kvs.map (·.2)) (vs.map (·.2)) → Rep K F (.dT kvs) (.ref a)
inductive Reps (K : Fg) (F : Hp) : List D → List V → Prop
  | nil : Reps K F [] []
  | cons {d : D} {v : V} {ds : List D} {vs : List V} : Rep K F d v → Reps K F ds vs → Reps K F (d :: ds) (v :: vs)
end
section
variable {K : Fg} {F F' : Hp}
mutual
theorem Rep.sub (s : Sub F F') : ∀ {d : D} {v : V}, Rep K F d v → Rep K F' d v
  | _, _, .non => .non
  | _, _, .bl b => .bl b
  | _, _, .int i => .int i
  | _, _, .str x => .str x
  | _, _, .tup h r => .tup (s _ _ h) (Reps.sub s r)
  | _, _, .ktup h r => .ktup (SqT.sub s h) (Reps.sub s r)
  | _, _, .lst h r => .lst (s _ _ h) (Reps.sub s r)
  | _, _, .src h => .src (SqL.sub s h)
  | _, _, .dK h e r => .dK (s _ _ h) e (Reps.sub s r)
  | _, _, .dT h e r => .dT (s _ _ h) e (Reps.sub s r)
theorem Reps.sub (s : Sub F F') : ∀ {ds : List D} {vs : List V}, Reps K F ds vs → Reps K F' ds vs
  | _, _, .nil => .nil
  | _, _, .cons a b => .cons (Rep.sub s a) (Reps.sub s b)
end
theorem Reps.length : ∀ {ds : List D} {vs : List V}, Reps K F ds vs → ds.length = vs.length
  | _, _, .nil => rfl
  | _, _, .cons _ b => congrArg (· + 1) (Reps.length b)
theorem Reps.append : ∀ {ds es : List D} {vs us : List V}, Reps K F ds vs → Reps K F es us → Reps K F (ds ++ es) (vs ++ us)
  | _, _, _, _, .nil, h => h
  | _, _, _, _, .cons a b, h => .cons a (Reps.append b h)
theorem Reps.get : ∀ {ds : List D} {vs : List V} {i : Nat} {d : D}, Reps K F ds vs → ds[i]? = some d → ∃ v, vs[i]? = some v ∧ Rep K F d v
  | _, _, _, _, .nil, h => by simp at h
  | _, _, 0, d, .cons a _, h => by
    have e := Option.some.inj (show some _ = some d from h)
    subst e
    exact ⟨_, rfl, a⟩
  | _, _, i + 1, d, .cons _ b, h => Reps.get (i := i) b (by simpa using h)
theorem Reps.get' : ∀ {ds : List D} {vs : List V} {i : Nat} {v : V}, Reps K F ds vs → vs[i]? = some v → ∃ d, ds[i]? = some d ∧ Rep K F d v
  | _, _, _, _, .nil, h => by simp at h
  | _, _, 0, v, .cons a _, h => by
    have e := Option.some.inj (show some _ = some v from h)
    subst e
    exact ⟨_, rfl, a⟩
  | _, _, i + 1, v, .cons _ b, h => Reps.get' (i := i) b (by simpa using h)
theorem Reps.take : ∀ {ds : List D} {vs : List V} (n : Nat), Reps K F ds vs → Reps K F (ds.take n) (vs.take n)
  | _, _, 0, _ => .nil
  | _, _, _ + 1, .nil => .nil
  | _, _, n + 1, .cons a b => .cons a (Reps.take n b)
theorem Reps.drop : ∀ {ds : List D} {vs : List V} (n : Nat), Reps K F ds vs → Reps K F (ds.drop n) (vs.drop n)
  | _, _, 0, h => h
  | _, _, _ + 1, .nil => .nil
  | _, _, n + 1, .cons _ b => Reps.drop n b
theorem Reps.set {d : D} {v : V} (r : Rep K F d v) : ∀ {ds : List D} {vs : List V} (i : Nat), Reps K F ds vs → Reps K F (ds.set i d) (vs.set i v)
  | _, _, _, .nil => .nil
  | _, _, 0, .cons _ b => .cons r b
  | _, _, i + 1, .cons a b => .cons a (Reps.set r i b)
theorem Reps.eraseIdx : ∀ {ds : List D} {vs : List V} (i : Nat), Reps K F ds vs → Reps K F (ds.eraseIdx i) (vs.eraseIdx i)
  | _, _, _, .nil => .nil
  | _, _, 0, .cons _ b => b
  | _, _, i + 1, .cons a b => .cons a (Reps.eraseIdx i b)
theorem Reps.reverse : ∀ {ds : List D} {vs : List V}, Reps K F ds vs → Reps K F ds.reverse vs.reverse
  | _, _, .nil => .nil
  | _, _, .cons a b => by
    rw [List.reverse_cons, List.reverse_cons]
    exact Reps.append (Reps.reverse b) (.cons a .nil)
theorem Reps.nums : ∀ (ns : List Int), Reps K F (ns.map D.int) (ns.map V.int)
  | [] => .nil
  | n :: r => .cons (.int n) (Reps.nums r)
end

/-- what a slot holds: data; or an own list or dict, of this content -/
inductive S where
  | d (x : D) | o (x : D) | x (e : Exn)
/-- what an expression gives: data; a new own list or dict; what slot i holds -/
inductive R where
  | d (x : D) | o (x : D) | s (i : Nat)
inductive Ctl where
  | nx | bk | ct | rt (r : R) | ex (x : Exn)
abbrev Env := List (Option S)
abbrev Dx (α : Type) := Env → Option (Except Exn α × Env)
abbrev DE := Dx R
abbrev DS := Env → Option (Ctl × Env)

def OwnO (K : Fg) (F : Hp) : HO → D → Prop
  | .lst xs, .lst ds => Reps K F ds xs
  | .dK vs, .dK kvs => vs.map (·.1) = kvs.map (·.1) ∧ Reps K F (kvs.map (·.2)) (vs.map (·.2))
  | .dT vs, .dT kvs => vs.map (·.1) = kvs.map (·.1) ∧ Reps K F (kvs.map (·.2)) (vs.map (·.2))
  | _, _ => False
def OwnAt (K : Fg) (F H : Hp) (p : Addr) (x : D) : Prop := ∃ o, H p = some o ∧ OwnO K F o x
theorem OwnO.sub {K : Fg} {F F' : Hp} (s : Sub F F') : ∀ {o : HO} {x : D}, OwnO K F o x → OwnO K F' o x := by
  intro o x h
  cases o with
  | lst xs => cases x with
    | lst ds => exact Reps.sub s h
    | _ => exact h.elim
  | dK vs => cases x with
    | dK kvs => exact ⟨h.1, Reps.sub s h.2⟩
    | _ => exact h.elim
  | dT vs => cases x with
    | dT kvs => exact ⟨h.1, Reps.sub s h.2⟩
    | _ => exact h.elim
  | _ => cases x <;> exact h.elim
theorem OwnO.rep {K : Fg} {F : Hp} {p : Addr} {o : HO} {x : D} (h : OwnO K F o x) (e : F p = some o) : Rep K F x (.ref p) := by
  cases o with
  | lst xs => cases x with
    | lst ds => exact .lst e h
    | _ => exact h.elim
  | dK vs => cases x with
    | dK kvs => exact .dK e h.1 h.2
    | _ => exact h.elim
  | dT vs => cases x with
    | dT kvs => exact .dT e h.1 h.2
    | _ => exact h.elim
  | _ => cases x <;> exact h.elim

/-- what slot i holds -/
def gt : Env → Nat → Option S
  | [], _ => none
  | o :: _, 0 => o
  | _ :: r, i + 1 => gt r i
theorem gt_lt : ∀ {ρ : Env} {i : Nat} {s : S}, gt ρ i = some s → i < ρ.length
  | [], _, _, h => by simp [gt] at h
  | _ :: _, 0, _, _ => Nat.succ_pos _
  | _ :: r, i + 1, s, h => Nat.succ_lt_succ (gt_lt (ρ := r) h)
theorem gt_same : ∀ {ρ : Env} {i : Nat} {s : Option S}, i < ρ.length → gt (ρ.set i s) i = s
  | [], _, _, h => absurd h (Nat.not_lt_zero _)
  | _ :: _, 0, _, _ => rfl
  | _ :: r, i + 1, s, h => gt_same (ρ := r) (Nat.lt_of_succ_lt_succ h)
theorem gt_ne : ∀ {ρ : Env} {i j : Nat} {s : Option S}, j ≠ i → gt (ρ.set i s) j = gt ρ j
  | [], _, _, _, _ => rfl
  | _ :: _, 0, 0, _, h => absurd rfl h
  | _ :: _, 0, j + 1, _, _ => rfl
  | _ :: _, i + 1, 0, _, _ => rfl
  | _ :: r, i + 1, j + 1, s, h => gt_ne (ρ := r) fun z => h (congrArg (· + 1) z)
/-- slot i of ρ is an own one, at p -/
def Ow (ρ : Env) (σ : St) (p : Addr) : Prop := ∃ (i : Nat) (x : D), gt ρ i = some (.o x) ∧ σ[i]? = some (some (V.ref p))
/-- the slots hold what ρ says -/
structure RS (K : Fg) (σ : St) (ρ : Env) (F H : Hp) : Prop where
  sub : Sub F H
  len : ρ.length = σ.length
  dat : ∀ (i : Nat) (x : D), gt ρ i = some (.d x) → ∃ v, σ[i]? = some (some v) ∧ Rep K F x v
  own : ∀ (i : Nat) (x : D), gt ρ i = some (.o x) → ∃ p, σ[i]? = some (some (V.ref p)) ∧ F p = none ∧ OwnAt K F H p x
  inj : ∀ (i j : Nat) (x y : D) (p : Addr), gt ρ i = some (.o x) → gt ρ j = some (.o y) → σ[i]? = some (some (V.ref p)) → σ[j]? = some (some (V.ref p)) → i = j
  exc : ∀ (i : Nat) (e : Exn), gt ρ i = some (.x e) → ∃ a, σ[i]? = some (some (V.ref a)) ∧ K.j.p e a F
/-- from (σ, ρ, F, H) to (σ', ρ', F', H'): only what is own is changed, only what is own or new is frozen -/
structure Gr (σ : St) (ρ : Env) (F H : Hp) (σ' : St) (ρ' : Env) (F' H' : Hp) : Prop where
  keep : ∀ a, H a ≠ none → ¬ Ow ρ σ a → H' a = H a
  live : ∀ a, H a ≠ none → H' a ≠ none
  mono : Sub F F'
  nofz : ∀ a, H a ≠ none → ¬ Ow ρ σ a → F a = none → F' a = none
  sub : ∀ a, Ow ρ' σ' a → Ow ρ σ a ∨ H a = none
theorem Gr.refl {σ : St} {ρ : Env} {F H : Hp} : Gr σ ρ F H σ ρ F H := ⟨fun _ _ _ => rfl, fun _ h => h, Sub.refl, fun _ _ _ h => h, fun _ h => .inl h⟩
theorem Gr.trans {σ σ1 σ2 : St} {ρ ρ1 ρ2 : Env} {F F1 F2 H H1 H2 : Hp} (a : Gr σ ρ F H σ1 ρ1 F1 H1) (b : Gr σ1 ρ1 F1 H1 σ2 ρ2 F2 H2) : Gr σ ρ F H σ2 ρ2 F2 H2 := by
  have no : ∀ c, H c ≠ none → ¬ Ow ρ σ c → ¬ Ow ρ1 σ1 c := fun c h n q => (a.sub c q).elim n h
  refine ⟨fun c h n => ?_, fun c h => b.live c (a.live c h), a.mono.trans b.mono, fun c h n f => ?_, fun c q => ?_⟩
  · rw [b.keep c (a.live c h) (no c h n), a.keep c h n]
  · exact b.nofz c (a.live c h) (no c h n) (a.nofz c h n f)
  · rcases b.sub c q with q | q
    · exact a.sub c q
    · refine .inr ?_
      cases e : H c with
      | none => rfl
      | some o => exact absurd q (a.live c (by rw [e]; simp))
theorem RS.ow_some {K : Fg} {σ : St} {ρ : Env} {F H : Hp} (r : RS K σ ρ F H) {p : Addr} (h : Ow ρ σ p) : H p ≠ none ∧ F p = none := by
  obtain ⟨i, x, e1, e2⟩ := h
  obtain ⟨q, e3, f, o, e4, _⟩ := r.own i x e1
  rw [e2] at e3
  cases e3
  exact ⟨by rw [e4]; simp, f⟩

/-- what an expression's result r is in the world behind: v; H0 the heap ahead -/
def RR (K : Fg) (σ : St) (ρ : Env) (F H H0 : Hp) : R → V → Prop
  | .d x, v => Rep K F x v
  | .o x, v => ∃ p, v = .ref p ∧ H0 p = none ∧ ¬ Ow ρ σ p ∧ F p = none ∧ OwnAt K F H p x
  | .s i, v => σ[i]? = some (some v) ∧ ∃ s, gt ρ i = some s
/-- an exception x: of the class cls, its own dict at d -/
def XR (K : Fg) (mg : Str → Option Value) (F : Hp) (x : Exn) (cls : Value) (d : Option Addr) : Prop :=
  ∃ C, mg x.cls = some (.ref C) ∧ cls = .ref C ∧ ((x.fs = [] ∧ d = none) ∨
    ∃ dd vs, d = some dd ∧ F dd = some (.xd vs) ∧ vs.map (·.1) = x.fs.map (·.1) ∧ Reps K F (x.fs.map (·.2)) (vs.map (·.2)))

abbrev MG := Str → Option Value
/-- where an exception is passed on -/
def EX (K : Fg) (mg : MG) (W : WX) (σ : St) (ρ : Env) (F H : Hp) (x : Exn) (ρ' : Env) : Prop :=
  ∀ cls d F' H', RS K σ ρ' F' H' → Gr σ ρ F H σ ρ' F' H' → XR K mg F' x cls d → W cls d σ H'
def EE (K : Fg) (mg : MG) (W : WX) (σ : St) (ρ : Env) (F H : Hp) (r : Except Exn R) (ρ' : Env) (Q : VK) : Prop :=
  match r with
  | .ok a => ∀ v F' H', RS K σ ρ' F' H' → Gr σ ρ F H σ ρ' F' H' → RR K σ ρ' F' H' H a v → Q v H'
  | .error x => EX K mg W σ ρ F H x ρ'
/-- an expression's reading by its function -/
def LE (K : Fg) (mg : MG) (W : WX) (f : DE) : TE := fun σ H Q =>
  ∃ ρ F r ρ', RS K σ ρ F H ∧ f ρ = some (r, ρ') ∧ EE K mg W σ ρ F H r ρ' Q

/-- first f, then k -/
def bE {α β : Type} (f : Dx α) (k : α → Dx β) : Dx β := fun ρ => match f ρ with
  | none => none
  | some (.error x, ρ1) => some (.error x, ρ1)
  | some (.ok a, ρ1) => k a ρ1
def rE {α : Type} (a : α) : Dx α := fun ρ => some (.ok a, ρ)

section
variable {K : Fg} {mg : MG} {W : WX} {σ : St} {ρ ρ1 ρ' : Env} {F F1 H H1 H0 : Hp} {v : V} {f fa fb : DE}
/-- a is evaluated first -/
theorem LE.bind {β : Type} {k : R → Dx β} {r : Except Exn β} {G : VK} (rs : RS K σ ρ F H) (e : bE fa k ρ = some (r, ρ'))
    (herr : ∀ x, r = .error x → EX K mg W σ ρ F H x ρ')
    (hok : ∀ a v ρ1 F1 H1, RS K σ ρ1 F1 H1 → Gr σ ρ F H σ ρ1 F1 H1 → RR K σ ρ1 F1 H1 H a v → k a ρ1 = some (r, ρ') → G v H1) : LE K mg W fa σ H G := by
  unfold bE at e
  cases q : fa ρ with
  | none => rw [q] at e; cases e
  | some z =>
    obtain ⟨ra, ρ1⟩ := z
    rw [q] at e
    cases ra with
    | error x =>
      cases e
      exact ⟨ρ, F, .error x, ρ', rs, q, herr x rfl⟩
    | ok a => exact ⟨ρ, F, .ok a, ρ1, rs, q, fun v F' H' rs' g rr => hok a v ρ1 F' H' rs' g rr e⟩
theorem PE.imp {X : Cx} {e : Expr} {t t' : TE} (h : PE X e t) (i : ∀ σ H Q, t' σ H Q → t σ H Q) : PE X e t' := ⟨fun pins s σ H Q I q => h.run pins s σ H Q I (i σ H Q q)⟩
theorem PT.imp {X : Cx} {e : Expr} {t t' : TT} (h : PT X e t) (i : ∀ σ H Q, t' σ H Q → t σ H Q) : PT X e t' := ⟨fun pins s σ H Q I q => h.run pins s σ H Q I (i σ H Q q)⟩
theorem PA.imp {X : Cx} {e : List Expr} {t t' : TA} (h : PA X e t) (i : ∀ σ H Q, t' σ H Q → t σ H Q) : PA X e t' := ⟨fun pos pins s σ H Q I q => h.run pos pins s σ H Q I (i σ H Q q)⟩
theorem PS.imp {X : Cx} {e : Stmt} {t t' : TS} (h : PS X e t) (i : ∀ D σ H, t' D σ H → t D σ H) : PS X e t' := ⟨fun pins s σ H D I q => h.run pins s σ H D I (i D σ H q)⟩
theorem PSs.imp {X : Cx} {e : List Stmt} {t t' : TS} (h : PSs X e t) (i : ∀ D σ H, t' D σ H → t D σ H) : PSs X e t' := ⟨fun pins s σ H D I q => h.run pins s σ H D I (i D σ H q)⟩
theorem PG.imp {X : Cx} {e : Expr} {t t' : TG} (h : PG X e t) (i : ∀ v σ H Q, t' v σ H Q → t v σ H Q) : PG X e t' := ⟨fun pins s σ H v u Q I r q => h.run pins s σ H v u Q I r (i v σ H Q q)⟩

/-- an own thing is frozen -/
theorem freeze {x : D} {H0 : Hp} {ρ0 : Env} {F0 : Hp} (rs : RS K σ ρ F H) (g : Gr σ ρ0 F0 H0 σ ρ F H) (h : RR K σ ρ F H H0 (.o x) v) :
    ∃ F', RS K σ ρ F' H ∧ Gr σ ρ0 F0 H0 σ ρ F' H ∧ Rep K F' x v ∧ Sub F F' := by
  obtain ⟨p, rfl, hn, hO, hf, o, ho, w⟩ := h
  have s : Sub F (upd F p o) := fun a u e => by rw [upd_ne (fun z => by rw [z, hf] at e; cases e)]; exact e
  refine ⟨upd F p o, ⟨fun a u e => ?_, rs.len, fun i y e => ?_, fun i y e => ?_, rs.inj, fun i e h => let ⟨a, h1, h2⟩ := rs.exc i e h; ⟨a, h1, K.j.mono _ _ _ _ s h2⟩⟩, ⟨g.keep, g.live, g.mono.trans s, fun a ha hna hfa => ?_, g.sub⟩, OwnO.rep (w.sub s) upd_same, s⟩
  · by_cases q : a = p
    · subst q
      rw [upd_same] at e
      cases e
      exact ho
    · rw [upd_ne q] at e
      exact rs.sub a u e
  · obtain ⟨z, e1, e2⟩ := rs.dat i y e
    exact ⟨z, e1, e2.sub s⟩
  · obtain ⟨q, e1, e2, u, e3, e4⟩ := rs.own i y e
    have ne : q ≠ p := fun z => by subst z; exact hO ⟨i, y, e, e1⟩
    exact ⟨q, e1, by rw [upd_ne ne]; exact e2, u, e3, e4.sub s⟩
  · have ne : a ≠ p := fun z => by subst z; exact ha hn
    rw [upd_ne ne]
    exact g.nofz a ha hna hfa

theorem RR.weak {a : R} (l : ∀ c, H0 c ≠ none → H1 c ≠ none) (h : RR K σ ρ F H H1 a v) : RR K σ ρ F H H0 a v := by
  cases a with
  | d x => exact h
  | s i => exact h
  | o x =>
    obtain ⟨p, e, hn, rest⟩ := h
    refine ⟨p, e, ?_, rest⟩
    cases q : H0 p with
    | none => rfl
    | some u => exact absurd hn (l p (by rw [q]; simp))

/-! ### operands: data, or what a slot holds when it is asked -/
def nrm : R → R
  | .o x => .d x
  | r => r
def RO (K : Fg) (σ : St) (F : Hp) : R → V → Prop
  | .d x, v => Rep K F x v
  | .s i, v => σ[i]? = some (some v)
  | .o _, _ => False
theorem RO.sub {a : R} (s : Sub F F1) (h : RO K σ F a v) : RO K σ F1 a v := by
  cases a with
  | d x => exact Rep.sub s h
  | s i => exact h
  | o x => exact h
def sd : Option S → Option D
  | some (.d x) => some x
  | some (.o x) => some x
  | some (.x _) => none
  | none => none
def pk (ρ : Env) : R → Option D
  | .d x => some x
  | .o _ => none
  | .s i => sd (gt ρ i)
/-- v is read as x -/
def PK (K : Fg) (F H : Hp) (x : D) (v : V) : Prop := Rep K F x v ∨ ∃ p, v = .ref p ∧ F p = none ∧ OwnAt K F H p x
theorem pk_ok {a : R} {x : D} (rs : RS K σ ρ F H) (ro : RO K σ F a v) (e : pk ρ a = some x) : PK K F H x v := by
  cases a with
  | d y =>
    cases e
    exact .inl ro
  | o y => cases e
  | s i =>
    have e : sd (gt ρ i) = some x := e
    cases q : gt ρ i with
    | none => rw [q] at e; cases e
    | some z =>
      rw [q] at e
      have ro' : σ[i]? = some (some v) := ro
      cases z with
      | d y =>
        cases e
        obtain ⟨w, e1, e2⟩ := rs.dat i _ q
        rw [ro'] at e1
        cases e1
        exact .inl e2
      | o y =>
        cases e
        obtain ⟨p, e1, e2⟩ := rs.own i _ q
        rw [ro'] at e1
        cases e1
        exact .inr ⟨p, rfl, e2⟩
      | x y => cases e
theorem LE.opnd {β : Type} {k : R → Dx β} {r : Except Exn β} {G : VK} (rs : RS K σ ρ F H) (e : bE fa (fun a => k (nrm a)) ρ = some (r, ρ'))
    (herr : ∀ x, r = .error x → EX K mg W σ ρ F H x ρ')
    (hok : ∀ a v ρ1 F1 H1, RS K σ ρ1 F1 H1 → Gr σ ρ F H σ ρ1 F1 H1 → RO K σ F1 a v → k a ρ1 = some (r, ρ') → G v H1) : LE K mg W fa σ H G := by
  refine LE.bind rs e herr fun a v ρ1 F1 H1 rs1 g1 rr e1 => ?_
  cases a with
  | d x => exact hok (.d x) v ρ1 F1 H1 rs1 g1 rr e1
  | s i => exact hok (.s i) v ρ1 F1 H1 rs1 g1 rr.1 e1
  | o x =>
    obtain ⟨F', rs2, g2, rp, _⟩ := freeze rs1 g1 rr
    exact hok (.d x) v ρ1 F' H1 rs2 g2 rp e1

def lft (o : Option R) : Dx R := fun ρ => match o with
  | some r => some (.ok r, ρ)
  | none => none
/-- two operands, then k of what they are -/
def o2 (fa fb : DE) (k : D → D → Option R) : DE := bE fa fun a => bE fb fun b => fun ρ => match pk ρ (nrm a), pk ρ (nrm b) with
  | some x, some y => lft (k x y) ρ
  | _, _ => none
def o1 (fa : DE) (k : D → Option R) : DE := bE fa fun a => fun ρ => match pk ρ (nrm a) with
  | some x => lft (k x) ρ
  | none => none
/-- the end of an operation: res in the world behind -/
abbrev FinR (K : Fg) (σ : St) (ρ : Env) (F H : Hp) (res : R) (Q : VK) : Prop := ∀ w F' H', RS K σ ρ F' H' → Gr σ ρ F H σ ρ F' H' → RR K σ ρ F' H' H res w → Q w H'
theorem lft_some {o : Option R} {r : Except Exn R} (e : lft o ρ = some (r, ρ')) : ∃ res, o = some res ∧ r = .ok res ∧ ρ' = ρ := by
  unfold lft at e
  cases o with
  | none => cases e
  | some a =>
    cases e
    exact ⟨a, rfl, rfl, rfl⟩
theorem LE.one {G : VK} {Q : VK} {k : D → Option R} (h : LE K mg W (o1 fa k) σ H Q)
    (hop : ∀ x res v ρ F H1, RS K σ ρ F H1 → PK K F H1 x v → k x = some res → FinR K σ ρ F H1 res Q → G v H1) : LE K mg W fa σ H G := by
  obtain ⟨ρ, F, r, ρ', rs, e, q⟩ := h
  refine LE.opnd (k := fun a => fun ρ => match pk ρ a with
    | some x => lft (k x) ρ
    | none => none) rs e (fun x hx => by subst hx; exact q) fun a v ρ1 F1 H1 rs1 g1 ro e1 => ?_
  have e2 : (match pk ρ1 a with
    | some x => lft (k x) ρ1
    | none => none) = some (r, ρ') := e1
  cases ea : pk ρ1 a with
  | none => rw [ea] at e2; cases e2
  | some x =>
    rw [ea] at e2
    obtain ⟨res, e3, rfl, rfl⟩ := lft_some e2
    exact hop x res v ρ' F1 H1 rs1 (pk_ok rs1 ro ea) e3 fun w F' H' rs' g' rr => q w F' H' rs' (g1.trans g') (RR.weak g1.live rr)
theorem LE.two {G : V → V → Hp → Prop} {Q : VK} {k : D → D → Option R} (h : LE K mg W (o2 fa fb k) σ H Q)
    (hop : ∀ x y res v u ρ F H1, RS K σ ρ F H1 → PK K F H1 x v → PK K F H1 y u → k x y = some res → FinR K σ ρ F H1 res Q → G v u H1) :
    LE K mg W fa σ H fun v H1 => LE K mg W fb σ H1 fun u H2 => G v u H2 := by
  obtain ⟨ρ, F, r, ρ', rs, e, q⟩ := h
  refine LE.opnd (k := fun a => bE fb fun b => fun ρ => match pk ρ a, pk ρ (nrm b) with
    | some x, some y => lft (k x y) ρ
    | _, _ => none) rs e (fun x hx => by subst hx; exact q) fun a v ρ1 F1 H1 rs1 g1 ro e1 => ?_
  refine LE.opnd (k := fun b => fun ρ => match pk ρ a, pk ρ b with
    | some x, some y => lft (k x y) ρ
    | _, _ => none) rs1 e1 (fun x hx => ?_) fun b u ρ2 F2 H2 rs2 g2 ro2 e2 => ?_
  · subst hx
    intro cls d F' H' rs' g' xr
    exact q cls d F' H' rs' (g1.trans g') xr
  · have e3 : (match pk ρ2 a, pk ρ2 b with
      | some x, some y => lft (k x y) ρ2
      | _, _ => none) = some (r, ρ') := e2
    cases ea : pk ρ2 a with
    | none => rw [ea] at e3; cases e3
    | some x =>
      cases eb : pk ρ2 b with
      | none => rw [ea, eb] at e3; cases e3
      | some y =>
        rw [ea, eb] at e3
        obtain ⟨res, e4, rfl, rfl⟩ := lft_some e3
        exact hop x y res v u ρ' F2 H2 rs2 (pk_ok rs2 (ro.sub g2.mono) ea) (pk_ok rs2 ro2 eb) e4 fun w F' H' rs' g' rr => q w F' H' rs' (g1.trans (g2.trans g')) (RR.weak (g1.trans g2).live rr)

/-! ### lists of operands -/
def eA : List DE → Dx (List R)
  | [] => rE []
  | f :: fs => bE f fun a => bE (eA fs) fun as => rE (nrm a :: as)
inductive ROs (K : Fg) (σ : St) (F : Hp) : List R → List V → Prop
  | nil : ROs K σ F [] []
  | cons {a : R} {v : V} {as : List R} {vs : List V} : RO K σ F a v → ROs K σ F as vs → ROs K σ F (a :: as) (v :: vs)
theorem ROs.sub (s : Sub F F1) : ∀ {as : List R} {vs : List V}, ROs K σ F as vs → ROs K σ F1 as vs
  | _, _, .nil => .nil
  | _, _, .cons a b => .cons (a.sub s) (ROs.sub s b)
def LA (K : Fg) (mg : MG) (W : WX) (fs : List DE) : TA := fun σ H Q => ∃ ρ F r ρ', RS K σ ρ F H ∧ eA fs ρ = some (r, ρ') ∧
  match (r : Except Exn (List R)) with
  | .ok as => ∀ vs F' H', RS K σ ρ' F' H' → Gr σ ρ F H σ ρ' F' H' → ROs K σ F' as vs → Q vs H'
  | .error x => EX K mg W σ ρ F H x ρ'
theorem LA.bind {β : Type} {fs : List DE} {k : List R → Dx β} {r : Except Exn β} {G : List V → Hp → Prop} (rs : RS K σ ρ F H) (e : bE (eA fs) k ρ = some (r, ρ'))
    (herr : ∀ x, r = .error x → EX K mg W σ ρ F H x ρ')
    (hok : ∀ as vs ρ1 F1 H1, RS K σ ρ1 F1 H1 → Gr σ ρ F H σ ρ1 F1 H1 → ROs K σ F1 as vs → k as ρ1 = some (r, ρ') → G vs H1) : LA K mg W fs σ H G := by
  unfold bE at e
  cases q : eA fs ρ with
  | none => rw [q] at e; cases e
  | some z =>
    obtain ⟨ra, ρ1⟩ := z
    rw [q] at e
    cases ra with
    | error x =>
      cases e
      exact ⟨ρ, F, .error x, ρ', rs, q, herr x rfl⟩
    | ok a => exact ⟨ρ, F, .ok a, ρ1, rs, q, fun v F' H' rs' g rr => hok a v ρ1 F' H' rs' g rr e⟩
theorem LA.nil : ∀ {σ : St} {H : Hp} {Q : List V → Hp → Prop}, LA K mg W [] σ H Q → tNil σ H Q := by
  rintro σ H Q ⟨ρ, F, r, ρ', rs, e, q⟩
  cases e
  exact q [] F H rs Gr.refl .nil
theorem LA.cons {fs : List DE} : ∀ {σ : St} {H : Hp} {Q : List V → Hp → Prop}, LA K mg W (f :: fs) σ H Q → tCons (LE K mg W f) (LA K mg W fs) σ H Q := by
  rintro σ H Q ⟨ρ, F, r, ρ', rs, e, q⟩
  refine LE.opnd (k := fun a => bE (eA fs) fun as => rE (a :: as)) rs e (fun x hx => by subst hx; exact q) fun a v ρ1 F1 H1 rs1 g1 ro e1 => ?_
  refine LA.bind rs1 e1 (fun x hx => ?_) fun as vs ρ2 F2 H2 rs2 g2 ro2 e2 => ?_
  · subst hx
    intro cls d F' H' rs' g' xr
    exact q cls d F' H' rs' (g1.trans g') xr
  · cases e2
    exact q (v :: vs) F2 H2 rs2 (g1.trans g2) (.cons (ro.sub g2.mono) ro2)
def pks (ρ : Env) : List R → Option (List D)
  | [] => some []
  | a :: as => match pk ρ a, pks ρ as with
    | some x, some xs => some (x :: xs)
    | _, _ => none
inductive PKs (K : Fg) (F H : Hp) : List D → List V → Prop
  | nil : PKs K F H [] []
  | cons {x : D} {v : V} {xs : List D} {vs : List V} : PK K F H x v → PKs K F H xs vs → PKs K F H (x :: xs) (v :: vs)
theorem pks_ok (rs : RS K σ ρ F H) : ∀ {as : List R} {vs : List V} {xs : List D}, ROs K σ F as vs → pks ρ as = some xs → PKs K F H xs vs
  | _, _, xs, .nil, e => by
    cases e
    exact .nil
  | a :: as, v :: vs, xs, .cons h t, e => by
    unfold pks at e
    cases ea : pk ρ a with
    | none => rw [ea] at e; cases e
    | some x =>
      cases eb : pks ρ as with
      | none => rw [ea, eb] at e; cases e
      | some ys =>
        rw [ea, eb] at e
        cases e
        exact .cons (pk_ok rs h ea) (pks_ok rs t eb)
/-- a built-in's call: operands, then k -/
def oN (fs : List DE) (k : List D → Option R) : DE := bE (eA fs) fun as => fun ρ => match pks ρ as with
  | some xs => lft (k xs) ρ
  | none => none
theorem LA.ops {fs : List DE} {G : List V → Hp → Prop} {Q : VK} {k : List D → Option R} (h : LE K mg W (oN fs k) σ H Q)
    (hop : ∀ xs res vs ρ F H1, RS K σ ρ F H1 → PKs K F H1 xs vs → k xs = some res → FinR K σ ρ F H1 res Q → G vs H1) : LA K mg W fs σ H G := by
  obtain ⟨ρ, F, r, ρ', rs, e, q⟩ := h
  refine LA.bind rs e (fun x hx => by subst hx; exact q) fun as vs ρ1 F1 H1 rs1 g1 ro e1 => ?_
  have e2 : (match pks ρ1 as with
    | some x => lft (k x) ρ1
    | none => none) = some (r, ρ') := e1
  cases ea : pks ρ1 as with
  | none => rw [ea] at e2; cases e2
  | some x =>
    rw [ea] at e2
    obtain ⟨res, e3, rfl, rfl⟩ := lft_some e2
    exact hop x res vs ρ' F1 H1 rs1 (pks_ok rs1 ro ea) e3 fun w F' H' rs' g' rr => q w F' H' rs' (g1.trans g') (RR.weak g1.live rr)
end
end Dn
end

section
set_option Elab.async false
set_option linter.all false
set_option maxRecDepth 100000
set_option maxHeartbeats 2000000
/-! Dn: expressions. -/
namespace Dn
open PySem PySem.Spec L2
section
variable {K : Fg} {mg : MG} {W : WX} {σ : St} {ρ ρ1 ρ' : Env} {F F1 H H1 H0 : Hp} {v u : V} {f fa fb fc : DE} {x y : D}

/-! ### what is read as data, by its make -/
theorem PK.non (h : PK K F H .non v) : v = .non := by
  rcases h with h | ⟨p, _, _, o, _, w⟩
  · cases h; rfl
  · cases o <;> exact w.elim
theorem PK.bl {b : Bool} (h : PK K F H (.bl b) v) : v = .bl b := by
  rcases h with h | ⟨p, _, _, o, _, w⟩
  · cases h; rfl
  · cases o <;> exact w.elim
theorem PK.int {i : Int} (h : PK K F H (.int i) v) : v = .int i := by
  rcases h with h | ⟨p, _, _, o, _, w⟩
  · cases h; rfl
  · cases o <;> exact w.elim
theorem PK.str {z : Str} (h : PK K F H (.str z) v) : v = .str z := by
  rcases h with h | ⟨p, _, _, o, _, w⟩
  · cases h; rfl
  · cases o <;> exact w.elim
theorem PK.tup {ds : List D} (s : Sub F H) (h : PK K F H (.tup ds) v) : ∃ a xs, v = .ref a ∧ SqT K H a xs ∧ Reps K F ds xs := by
  rcases h with h | ⟨p, _, _, o, _, w⟩
  · cases h with
    | tup a b => exact ⟨_, _, rfl, SqT.of (s _ _ a), b⟩
  · cases o <;> exact w.elim
theorem PK.ktup {ds : List D} (s : Sub F H) (h : PK K F H (.ktup ds) v) : ∃ a xs, v = .ref a ∧ SqT K H a xs ∧ Reps K F ds xs := by
  rcases h with h | ⟨p, _, _, o, _, w⟩
  · cases h with
    | ktup a b => exact ⟨_, _, rfl, SqT.sub s a, b⟩
  · cases o <;> exact w.elim
theorem PK.lst {ds : List D} (s : Sub F H) (h : PK K F H (.lst ds) v) : ∃ a xs, v = .ref a ∧ H a = some (.lst xs) ∧ Reps K F ds xs := by
  rcases h with h | ⟨p, rfl, _, o, ho, w⟩
  · cases h with
    | lst a b => exact ⟨_, _, rfl, s _ _ a, b⟩
  · cases o with
    | lst xs => exact ⟨p, xs, rfl, ho, w⟩
    | _ => exact w.elim
theorem PK.src {ns : List Int} (s : Sub F H) (h : PK K F H (.src ns) v) : ∃ a, v = .ref a ∧ SqL K H a (ns.map V.int) := by
  rcases h with h | ⟨p, _, _, o, _, w⟩
  · cases h with
    | src a => exact ⟨_, rfl, SqL.sub s a⟩
  · cases o <;> exact w.elim

/-! ### new things -/
/-- a new thing that is frozen at once -/
theorem newF {p : Addr} {o : HO} (rs : RS K σ ρ F H) (hp : H p = none) : RS K σ ρ (upd F p o) (upd H p o) ∧ Gr σ ρ F H σ ρ (upd F p o) (upd H p o) ∧ Sub F (upd F p o) := by
  have hf : F p = none := by
    cases e : F p with
    | none => rfl
    | some z => rw [rs.sub _ _ e] at hp; cases hp
  have s : Sub F (upd F p o) := fun a u e => by rw [upd_ne (fun z => by rw [z, hf] at e; cases e)]; exact e
  have ne : ∀ a, H a ≠ none → a ≠ p := fun a h z => by subst z; exact h hp
  refine ⟨⟨fun a u e => ?_, rs.len, fun i z e => ?_, fun i z e => ?_, rs.inj, fun i e h => let ⟨a, h1, h2⟩ := rs.exc i e h; ⟨a, h1, K.j.mono _ _ _ _ s h2⟩⟩, ⟨fun a h _ => upd_ne (ne a h), fun a h => by rw [upd_ne (ne a h)]; exact h, s, fun a h _ e => by rw [upd_ne (ne a h)]; exact e, fun a h => .inl h⟩, s⟩
  · by_cases q : a = p
    · subst q
      rw [upd_same] at e ⊢
      exact e
    · rw [upd_ne q] at e ⊢
      exact rs.sub a u e
  · obtain ⟨w, e1, e2⟩ := rs.dat i z e
    exact ⟨w, e1, e2.sub s⟩
  · obtain ⟨q, e1, e2, w, e3, e4⟩ := rs.own i z e
    have nq : q ≠ p := fun z => by subst z; rw [hp] at e3; cases e3
    exact ⟨q, e1, by rw [upd_ne nq]; exact e2, w, by rw [upd_ne nq]; exact e3, e4.sub s⟩
/-- a new thing that is own -/
theorem newO {p : Addr} {o : HO} (rs : RS K σ ρ F H) (hp : H p = none) (w : OwnO K F o x) :
    RS K σ ρ F (upd H p o) ∧ Gr σ ρ F H σ ρ F (upd H p o) ∧ RR K σ ρ F (upd H p o) H (.o x) (.ref p) := by
  have hf : F p = none := by
    cases e : F p with
    | none => rfl
    | some z => rw [rs.sub _ _ e] at hp; cases hp
  have ne : ∀ a, H a ≠ none → a ≠ p := fun a h z => by subst z; exact h hp
  refine ⟨⟨fun a u e => ?_, rs.len, rs.dat, fun i z e => ?_, rs.inj, rs.exc⟩, ⟨fun a h _ => upd_ne (ne a h), fun a h => by rw [upd_ne (ne a h)]; exact h, Sub.refl, fun a h _ e => e, fun a h => .inl h⟩, ?_⟩
  · have q : a ≠ p := fun z => by rw [z, hf] at e; cases e
    rw [upd_ne q]
    exact rs.sub a u e
  · obtain ⟨q, e1, e2, w, e3, e4⟩ := rs.own i z e
    have nq : q ≠ p := fun z => by subst z; rw [hp] at e3; cases e3
    exact ⟨q, e1, e2, w, by rw [upd_ne nq]; exact e3, e4⟩
  · exact ⟨p, rfl, hp, fun q => (rs.ow_some q).1 hp, hf, o, upd_same, w⟩
/-- an end without a change -/
theorem FinR.same {res : R} {Q : VK} (h : FinR K σ ρ F H res Q) (rs : RS K σ ρ F H) (r : RR K σ ρ F H H res v) : Q v H := h v F H rs Gr.refl r
theorem FinR.dat {Q : VK} (h : FinR K σ ρ F H (.d x) Q) (rs : RS K σ ρ F H) (r : Rep K F x v) : Q v H := h v F H rs Gr.refl r
theorem FinR.tup {ds : List D} {xs : List V} {Q : VK} (h : FinR K σ ρ F H (.d (.tup ds)) Q) (rs : RS K σ ρ F H) (r : Reps K F ds xs) : ∀ p, H p = none → Q (.ref p) (upd H p (.tup xs)) := fun p hp => by
  obtain ⟨a, b, c⟩ := newF (o := .tup xs) rs hp
  exact h _ _ _ a b (.tup upd_same (r.sub c))
theorem FinR.lst {ds : List D} {xs : List V} {Q : VK} (h : FinR K σ ρ F H (.o (.lst ds)) Q) (rs : RS K σ ρ F H) (r : Reps K F ds xs) : ∀ p, H p = none → Q (.ref p) (upd H p (.lst xs)) := fun p hp => by
  obtain ⟨a, b, c⟩ := newO (x := .lst ds) (o := .lst xs) rs hp r
  exact h _ _ _ a b c

/-! ### names, constants -/
def xVar (i : Nat) : DE := fun ρ => match gt ρ i with
  | some (.d x) => some (.ok (.d x), ρ)
  | some (.o _) => some (.ok (.s i), ρ)
  | some (.x _) => none
  | none => none
theorem LE.var {i : Nat} : ∀ {σ : St} {H : Hp} {Q : VK}, LE K mg W (xVar i) σ H Q → tVar i σ H Q := by
  rintro σ H Q ⟨ρ, F, r, ρ', rs, e, q⟩
  unfold xVar at e
  cases g : gt ρ i with
  | none => rw [g] at e; cases e
  | some s =>
    rw [g] at e
    cases s with
    | d x =>
      cases e
      obtain ⟨v, e1, e2⟩ := rs.dat i x g
      exact ⟨v, e1, q v F H rs Gr.refl e2⟩
    | o x =>
      cases e
      obtain ⟨p, e1, _⟩ := rs.own i x g
      exact ⟨_, e1, q _ F H rs Gr.refl ⟨e1, _, g⟩⟩
    | x x => cases e
def xC (x : D) : DE := fun ρ => some (.ok (.d x), ρ)
theorem LE.con (hx : ∀ F, Rep K F x v) : ∀ {σ : St} {H : Hp} {Q : VK}, LE K mg W (xC x) σ H Q → tC v σ H Q := by
  rintro σ H Q ⟨ρ, F, r, ρ', rs, e, q⟩
  cases e
  exact q v F H rs Gr.refl (hx F)

/-! ### displays -/
/-- what slot j holds becomes data -/
def frzS (ρ : Env) (j : Nat) : Option (D × Env) := match gt ρ j with
  | some (.d x) => some (x, ρ)
  | some (.o x) => some (x, ρ.set j (some (.d x)))
  | some (.x _) => none
  | none => none
/-- as data -/
def toD (ρ : Env) : R → Option (D × Env)
  | .d x => some (x, ρ)
  | .o x => some (x, ρ)
  | .s j => frzS ρ j
def toDs (ρ : Env) : List R → Option (List D × Env)
  | [] => some ([], ρ)
  | a :: as => match toD ρ a with
    | some (x, ρ1) => (match toDs ρ1 as with
      | some (xs, ρ2) => some (x :: xs, ρ2)
      | none => none)
    | none => none
theorem frzS_ok {j : Nat} (rs : RS K σ ρ F H) (hv : σ[j]? = some (some v)) (e : frzS ρ j = some (x, ρ')) :
    ∃ F', RS K σ ρ' F' H ∧ Gr σ ρ F H σ ρ' F' H ∧ Rep K F' x v := by
  unfold frzS at e
  cases g : gt ρ j with
  | none => rw [g] at e; cases e
  | some s =>
    rw [g] at e
    cases s with
    | d z =>
      cases e
      obtain ⟨w, e1, e2⟩ := rs.dat j _ g
      rw [hv] at e1
      cases e1
      exact ⟨F, rs, Gr.refl, e2⟩
    | o z =>
      cases e
      obtain ⟨p, e1, e2, o, e3, e4⟩ := rs.own j _ g
      rw [hv] at e1
      cases e1
      have s : Sub F (upd F p o) := fun a u e => by rw [upd_ne (fun z => by rw [z, e2] at e; cases e)]; exact e
      have own' : ∀ (i : Nat) (y : D), gt (ρ.set j (some (.d x))) i = some (.o y) → i ≠ j ∧ gt ρ i = some (.o y) := fun i y h => by
        by_cases q : i = j
        · subst q
          rw [gt_same (gt_lt g)] at h
          cases h
        · rw [gt_ne q] at h
          exact ⟨q, h⟩
      refine ⟨upd F p o, ⟨fun a u e => ?_, by rw [List.length_set]; exact rs.len, fun i y e => ?_, fun i y e => ?_, fun i k y z q h1 h2 h3 h4 => ?_, fun i e h => ?_⟩, ⟨fun _ _ _ => rfl, fun _ h => h, s, fun a h n e => ?_, fun a h => ?_⟩, OwnO.rep (e4.sub s) upd_same⟩
      · by_cases q : a = p
        · subst q
          rw [upd_same] at e
          cases e
          exact e3
        · rw [upd_ne q] at e
          exact rs.sub a u e
      · by_cases q : i = j
        · subst q
          rw [gt_same (gt_lt g)] at e
          cases e
          exact ⟨_, hv, OwnO.rep (e4.sub s) upd_same⟩
        · rw [gt_ne q] at e
          obtain ⟨w, q1, q2⟩ := rs.dat i y e
          exact ⟨w, q1, q2.sub s⟩
      · obtain ⟨ne, h⟩ := own' i y e
        obtain ⟨q, q1, q2, w, q3, q4⟩ := rs.own i y h
        have nq : q ≠ p := fun z => by subst z; exact ne (rs.inj i j _ _ q h g q1 hv)
        exact ⟨q, q1, by rw [upd_ne nq]; exact q2, w, q3, q4.sub s⟩
      · exact rs.inj i k y z q (own' i y h1).2 (own' k z h2).2 h3 h4
      · by_cases q : i = j
        · subst q
          rw [gt_same (gt_lt g)] at h
          cases h
        · rw [gt_ne q] at h
          obtain ⟨a, h1, h2⟩ := rs.exc i e h
          exact ⟨a, h1, K.j.mono _ _ _ _ s h2⟩
      · have nq : a ≠ p := fun z => by subst z; exact n ⟨j, _, g, hv⟩
        rw [upd_ne nq]
        exact e
      · obtain ⟨i, y, h1, h2⟩ := h
        exact .inl ⟨i, y, (own' i y h1).2, h2⟩
    | x z => cases e
theorem toD_ok {a : R} (rs : RS K σ ρ F H) (h : RO K σ F a v) (e : toD ρ a = some (x, ρ')) : ∃ F', RS K σ ρ' F' H ∧ Gr σ ρ F H σ ρ' F' H ∧ Rep K F' x v := by
  cases a with
  | d y =>
    cases e
    exact ⟨F, rs, Gr.refl, h⟩
  | o y => exact h.elim
  | s j => exact frzS_ok rs h e
theorem toDs_ok : ∀ {as : List R} {vs : List V} {xs : List D} {ρ ρ' : Env} {F : Hp}, RS K σ ρ F H → ROs K σ F as vs → toDs ρ as = some (xs, ρ') →
    ∃ F', RS K σ ρ' F' H ∧ Gr σ ρ F H σ ρ' F' H ∧ Reps K F' xs vs
  | _, _, xs, ρ, ρ', F, rs, .nil, e => by
    cases e
    exact ⟨F, rs, Gr.refl, .nil⟩
  | a :: as, v :: vs, xs, ρ, ρ', F, rs, .cons h t, e => by
    unfold toDs at e
    cases ea : toD ρ a with
    | none => rw [ea] at e; cases e
    | some z =>
      obtain ⟨x, ρ1⟩ := z
      rw [ea] at e
      have e : (match toDs ρ1 as with
        | some (xs, ρ2) => some (x :: xs, ρ2)
        | none => none) = some (xs, ρ') := e
      obtain ⟨F1, rs1, g1, r1⟩ := toD_ok rs h ea
      cases eb : toDs ρ1 as with
      | none => rw [eb] at e; cases e
      | some z =>
        obtain ⟨ys, ρ2⟩ := z
        rw [eb] at e
        cases e
        obtain ⟨F2, rs2, g2, r2⟩ := toDs_ok rs1 (ROs.sub g1.mono t) eb
        exact ⟨F2, rs2, g1.trans g2, .cons (r1.sub g2.mono) r2⟩
theorem toDs_len : ∀ {as : List R} {xs : List D} {ρ ρ' : Env}, toDs ρ as = some (xs, ρ') → xs.length = as.length
  | [], xs, ρ, ρ', e => by cases e; rfl
  | a :: as, xs, ρ, ρ', e => by
    unfold toDs at e
    cases ea : toD ρ a with
    | none => rw [ea] at e; cases e
    | some z =>
      obtain ⟨x, ρ1⟩ := z
      rw [ea] at e
      have e : (match toDs ρ1 as with
        | some (xs, ρ2) => some (x :: xs, ρ2)
        | none => none) = some (xs, ρ') := e
      cases eb : toDs ρ1 as with
      | none => rw [eb] at e; cases e
      | some z =>
        rw [eb] at e
        cases e
        exact congrArg (· + 1) (toDs_len eb)
theorem eA_len : ∀ {fs : List DE} {as : List R} {ρ ρ' : Env}, eA fs ρ = some (.ok as, ρ') → as.length = fs.length
  | [], as, ρ, ρ', e => by cases e; rfl
  | f :: fs, as, ρ, ρ', e => by
    unfold eA bE at e
    cases ef : f ρ with
    | none => rw [ef] at e; cases e
    | some z =>
      obtain ⟨r, ρ1⟩ := z
      rw [ef] at e
      cases r with
      | error x => cases e
      | ok a =>
        have e : bE (eA fs) (fun as => rE (nrm a :: as)) ρ1 = some (.ok as, ρ') := e
        unfold bE at e
        cases eb : eA fs ρ1 with
        | none => rw [eb] at e; cases e
        | some z =>
          obtain ⟨r2, ρ2⟩ := z
          rw [eb] at e
          cases r2 with
          | error x => cases e
          | ok bs =>
            cases e
            exact congrArg (· + 1) (eA_len eb)
/-- operands as data, then k -/
def dN (fs : List DE) (k : List D → Option R) : DE := bE (eA fs) fun as => fun ρ => match toDs ρ as with
  | some (xs, ρ1) => lft (k xs) ρ1
  | none => none
theorem LA.dats {fs : List DE} {G : List V → Hp → Prop} {Q : VK} {k : List D → Option R} (h : LE K mg W (dN fs k) σ H Q)
    (hop : ∀ xs res vs ρ F H1, RS K σ ρ F H1 → Reps K F xs vs → vs.length = fs.length → k xs = some res → FinR K σ ρ F H1 res Q → G vs H1) : LA K mg W fs σ H G := by
  obtain ⟨ρ, F, r, ρ', rs, e, q⟩ := h
  have hl : ∀ as ρ1, eA fs ρ = some (.ok as, ρ1) → as.length = fs.length := fun as ρ1 e => eA_len e
  unfold dN bE at e
  cases ef : eA fs ρ with
  | none => rw [ef] at e; cases e
  | some z =>
    obtain ⟨ra, ρ1⟩ := z
    rw [ef] at e
    cases ra with
    | error x =>
      cases e
      exact ⟨ρ, F, .error x, _, rs, ef, q⟩
    | ok as =>
      refine ⟨ρ, F, .ok as, ρ1, rs, ef, fun vs F1 H1 rs1 g1 ro => ?_⟩
      have e2 : (match toDs ρ1 as with
        | some (x, ρ2) => lft (k x) ρ2
        | none => none) = some (r, ρ') := e
      cases ea : toDs ρ1 as with
      | none => rw [ea] at e2; cases e2
      | some z =>
        obtain ⟨xs, ρ2⟩ := z
        rw [ea] at e2
        obtain ⟨res, e3, rfl, rfl⟩ := lft_some e2
        obtain ⟨F2, rs2, g2, r2⟩ := toDs_ok rs1 ro ea
        refine hop xs res vs _ F2 H1 rs2 r2 ?_ e3 fun w F' H' rs' g' rr => q w F' H' rs' (g1.trans (g2.trans g')) (RR.weak g1.live rr)
        rw [← r2.length, toDs_len ea, hl as ρ1 ef]
def xTup (fs : List DE) : DE := dN fs fun xs => some (.d (.tup xs))
def xLst (fs : List DE) : DE := dN fs fun xs => some (.o (.lst xs))
theorem LE.tup {fs : List DE} (hz : fs.length ≤ sizeLine) : ∀ {σ : St} {H : Hp} {Q : VK}, LE K mg W (xTup fs) σ H Q → tTup (LA K mg W fs) σ H Q := fun h =>
  LA.dats h fun xs res vs ρ F H1 rs r hl e q => by
    cases e
    exact ⟨by rw [hl]; exact hz, FinR.tup q rs r⟩
theorem LE.lst {fs : List DE} (hz : fs.length ≤ sizeLine) : ∀ {σ : St} {H : Hp} {Q : VK}, LE K mg W (xLst fs) σ H Q → tLst (LA K mg W fs) σ H Q := fun h =>
  LA.dats h fun xs res vs ρ F H1 rs r hl e q => by
    cases e
    exact ⟨by rw [hl]; exact hz, FinR.lst q rs r⟩
end
end Dn
end

section
set_option Elab.async false
set_option linter.all false
set_option maxRecDepth 100000
set_option maxHeartbeats 2000000
/-! Dn: operators, comparisons, tests, calls. -/
namespace Dn
open PySem PySem.Spec L2
/-! ### data as the library's data -/
mutual
def toPy : D → PyData
  | .non => .none
  | .bl b => .bool b
  | .int i => .int i
  | .str x => .str x
  | .tup xs => .tuple (toPys xs)
  | .lst xs => .list (toPys xs)
  | .dK _ => .none
  | .dT _ => .none
  | .src ns => .list (ns.map .int)
  | .ktup xs => .tuple (toPys xs)
def toPys : List D → List PyData
  | [] => []
  | x :: xs => toPy x :: toPys xs
end
mutual
def isPy : D → Bool
  | .tup xs => isPys xs
  | .lst xs => isPys xs
  | .dK _ => false
  | .dT _ => false
  | .ktup xs => isPys xs
  | _ => true
def isPys : List D → Bool
  | [] => true
  | x :: xs => isPy x && isPys xs
end
section
variable {K : Fg} {mg : MG} {W : WX} {σ : St} {ρ ρ1 ρ' : Env} {F F1 H H1 H0 : Hp} {v u : V} {f fa fb fc : DE} {x y : D}
theorem dpInts (ns : List Int) : DpAll K H (ns.map V.int) (ns.map PyData.int) := by
  induction ns with
  | nil => exact .nil
  | cons n r ih => exact .cons (.int n) ih
mutual
theorem Rep.dp (s : Sub F H) : ∀ {x : D} {v : V}, Rep K F x v → isPy x = true → Dp K H v (toPy x)
  | _, _, .non, _ => .non
  | _, _, .bl b, _ => .bl b
  | _, _, .int i, _ => .int i
  | _, _, .str z, _ => .str z
  | _, _, .tup a b, h => .tup (SqT.of (s _ _ a)) (Reps.dp s b h)
  | _, _, .ktup a b, h => .tup (SqT.sub s a) (Reps.dp s b h)
  | _, _, .lst a b, h => .lst (SqL.of (s _ _ a)) (Reps.dp s b h)
  | _, _, .src a, _ => .lst (SqL.sub s a) (dpInts _)
  | _, _, .dK _ _ _, h => by cases h
  | _, _, .dT _ _ _, h => by cases h
theorem Reps.dp (s : Sub F H) : ∀ {xs : List D} {vs : List V}, Reps K F xs vs → isPys xs = true → DpAll K H vs (toPys xs)
  | _, _, .nil, _ => .nil
  | _, _, .cons a b, h => by
    have h2 : (isPy _ && isPys _) = true := h
    rw [Bool.and_eq_true] at h2
    exact .cons (Rep.dp s a h2.1) (Reps.dp s b h2.2)
end
theorem PK.dp (s : Sub F H) (h : PK K F H x v) (hp : isPy x = true) : Dp K H v (toPy x) := by
  rcases h with h | ⟨p, rfl, _, o, ho, w⟩
  · exact h.dp s hp
  · cases o with
    | lst xs => cases x with
      | lst ds => exact .lst (SqL.of ho) (Reps.dp s w hp)
      | _ => exact w.elim
    | dK vs => cases x with
      | dK ds => cases hp
      | _ => exact w.elim
    | dT vs => cases x with
      | dT ds => cases hp
      | _ => exact w.elim
    | _ => cases x <;> exact w.elim
theorem PK.tupR {ds : List D} (h : PK K F H (.tup ds) v) : Rep K F (.tup ds) v := by
  rcases h with h | ⟨p, _, _, o, _, w⟩
  · exact h
  · cases o <;> exact w.elim

/-! ### operators -/
def kAdd : D → D → Option R
  | .int i, .int j => some (.d (.int (i + j)))
  | .str a, .str b => if a.length + b.length ≤ sizeLine then some (.d (.str (a ++ b))) else none
  | .lst xs, .lst ys => if xs.length + ys.length ≤ sizeLine then some (.o (.lst (xs ++ ys))) else none
  | .tup xs, .tup ys => if xs.length + ys.length ≤ sizeLine then some (.d (.tup (xs ++ ys))) else none
  | _, _ => none
def rAdd4 (K : PySem.W.Frag) : R2 := fun x y H Q => rI0 (fun i j => .int (i + j)) x y H Q ∨ (∃ i j, x = .str i ∧ y = .str j ∧ i.length + j.length ≤ sizeLine ∧ Q (.str (i ++ j)) H) ∨ rCat x y H Q ∨ rCatA K x y H Q
theorem op_add4 {X : Cx} : OpR X (binaryOp .Add) (rAdd4 X.K) := OpR.or op_add (OpR.or op_add_str (OpR.or op_cat op_catA))
theorem hAdd : ∀ x y res v u ρ F H, RS K σ ρ F H → PK K F H x v → PK K F H y u → kAdd x y = some res → ∀ Q, FinR K σ ρ F H res Q → rAdd4 K v u H Q := by
  intro x y res v u ρ F H rs hx hy e Q q
  unfold kAdd at e
  split at e
  · cases e
    cases hx.int
    cases hy.int
    exact .inl ⟨_, _, rfl, rfl, q.dat rs (.int _)⟩
  · split at e
    · cases e
      cases hx.str
      cases hy.str
      exact .inr (.inl ⟨_, _, rfl, rfl, by assumption, q.dat rs (.str _)⟩)
    · cases e
  · split at e
    · cases e
      obtain ⟨a, xs, rfl, ha, ra⟩ := hx.lst rs.sub
      obtain ⟨b, ys, rfl, hb, rb⟩ := hy.lst rs.sub
      exact .inr (.inr (.inl ⟨a, b, xs, ys, rfl, rfl, ha, hb, by rw [← ra.length, ← rb.length]; assumption, FinR.lst q rs (ra.append rb)⟩))
    · cases e
  · split at e
    · cases e
      have hx' := hx.tupR
      have hy' := hy.tupR
      obtain ⟨a, xs, rfl, ha, ra⟩ := hx.tup rs.sub
      obtain ⟨b, ys, rfl, hb, rb⟩ := hy.tup rs.sub
      refine .inr (.inr (.inr ⟨a, b, xs, ys, rfl, rfl, ha, hb, by rw [← ra.length, ← rb.length]; assumption, fun z => ?_, fun _ z => ?_, fun _ _ => FinR.tup q rs (ra.append rb)⟩))
      · subst z
        cases ra
        exact q.dat rs hy'
      · subst z
        cases rb
        rw [List.append_nil] at q
        exact q.dat rs hx'
    · cases e
  · cases e
theorem pe_add4 {X : Cx} {a b : Expr} {pos : Pos} (ha : PE X a (LE (kj J X) X.mg W fa)) (hb : PE X b (LE (kj J X) X.mg W fb)) : PE X (.BinOp a .Add b pos) (LE (kj J X) X.mg W (o2 fa fb kAdd)) :=
  PE.imp (pe_op op_add4 ha hb) fun _ _ _ h => LE.two h fun x y res v u ρ F H rs hx hy e q => hAdd x y res v u ρ F H rs hx hy e _ q
def kSub : D → D → Option R
  | .int i, .int j => some (.d (.int (i - j)))
  | _, _ => none
theorem pe_subD {X : Cx} {a b : Expr} {pos : Pos} (ha : PE X a (LE (kj J X) X.mg W fa)) (hb : PE X b (LE (kj J X) X.mg W fb)) : PE X (.BinOp a .Sub b pos) (LE (kj J X) X.mg W (o2 fa fb kSub)) :=
  PE.imp (pe_op op_sub ha hb) fun _ _ _ h => LE.two h fun x y res v u ρ F H rs hx hy e q => by
    unfold kSub at e
    split at e
    · cases e
      cases hx.int
      cases hy.int
      exact ⟨_, _, rfl, rfl, q.dat rs (.int _)⟩
    · cases e
def kMod : D → D → Option R
  | .int i, .int j => if 0 < j then some (.d (.int (i % j))) else none
  | _, _ => none
theorem pe_modD {X : Cx} {a b : Expr} {pos : Pos} (ha : PE X a (LE (kj J X) X.mg W fa)) (hb : PE X b (LE (kj J X) X.mg W fb)) : PE X (.BinOp a .Mod b pos) (LE (kj J X) X.mg W (o2 fa fb kMod)) :=
  PE.imp (pe_op op_mod ha hb) fun _ _ _ h => LE.two h fun x y res v u ρ F H rs hx hy e q => by
    unfold kMod at e
    split at e
    · split at e
      · cases e
        cases hx.int
        cases hy.int
        exact ⟨_, _, rfl, rfl, by assumption, q.dat rs (.int _)⟩
      · cases e
    · cases e
def kDiv : D → D → Option R
  | .int i, .int j => if 0 < j ∧ j < 1073741824 then some (.d (.int (i / j))) else none
  | _, _ => none
theorem pe_divD {X : Cx} {a b : Expr} {pos : Pos} (ha : PE X a (LE (kj J X) X.mg W fa)) (hb : PE X b (LE (kj J X) X.mg W fb)) : PE X (.BinOp a .FloorDiv b pos) (LE (kj J X) X.mg W (o2 fa fb kDiv)) :=
  PE.imp (pe_op op_fdiv ha hb) fun _ _ _ h => LE.two h fun x y res v u ρ F H rs hx hy e q => by
    unfold kDiv at e
    split at e
    · split at e
      · cases e
        cases hx.int
        cases hy.int
        exact ⟨_, _, rfl, rfl, by assumption, q.dat rs (.int _)⟩
      · cases e
    · cases e
def kPow : D → D → Option R
  | .int i, .int j => if 0 ≤ j ∧ j ≤ 1000000 ∧ i.natAbs < 18446744073709551616 then some (.d (.int (i ^ j.toNat))) else none
  | _, _ => none
theorem pe_powD {X : Cx} {a b : Expr} {pos : Pos} (ha : PE X a (LE (kj J X) X.mg W fa)) (hb : PE X b (LE (kj J X) X.mg W fb)) : PE X (.BinOp a .Pow b pos) (LE (kj J X) X.mg W (o2 fa fb kPow)) :=
  PE.imp (pe_op op_pow ha hb) fun _ _ _ h => LE.two h fun x y res v u ρ F H rs hx hy e q => by
    unfold kPow at e
    split at e
    · split at e
      · rename_i hc
        cases e
        cases hx.int
        cases hy.int
        exact ⟨_, _, rfl, rfl, ⟨hc.1, hc.2.1, by have := hc.2.2; omega⟩, q.dat rs (.int _)⟩
      · cases e
    · cases e

/-! ### comparisons -/
def kCmp (p : Int → Int → Bool) : D → D → Option R
  | .int i, .int j => some (.d (.bl (p i j)))
  | _, _ => none
theorem hCmp {p : Int → Int → Bool} : ∀ x y res v u ρ F H, RS K σ ρ F H → PK K F H x v → PK K F H y u → kCmp p x y = some res → ∀ Q, FinR K σ ρ F H res Q → rI0 (fun i j => .bl (p i j)) v u H Q := by
  intro x y res v u ρ F H rs hx hy e Q q
  unfold kCmp at e
  split at e
  · cases e
    cases hx.int
    cases hy.int
    exact ⟨_, _, rfl, rfl, q.dat rs (.bl _)⟩
  · cases e
abbrev kLt := kCmp fun i j => decide (i < j)
abbrev kLe := kCmp fun i j => decide (i ≤ j)
abbrev kGt := kCmp fun i j => decide (j < i)
abbrev kGe := kCmp fun i j => decide (j ≤ i)
def eqD (x y : D) : Option Bool := if isPy x = true ∧ isPy y = true ∧ SeqAt.shaped (toPy x) = true ∧ SeqAt.shaped (toPy y) = true then some (PyData.eqv (toPy x) (toPy y)) else none
def eqS : D → D → Option Bool
  | .str a, .str b => some (decide (a = b))
  | .int a, .int b => some (decide (a = b))
  | x, y => eqD x y
def kEq (x y : D) : Option R := (eqS x y).map fun b => .d (.bl b)
def kNe (x y : D) : Option R := (eqS x y).map fun b => .d (.bl !b)
def rEq2 (K : PySem.W.Frag) : R2 := fun x y H Q => rEq x y H Q ∨ rEqD K x y H Q
def rNe2 (K : PySem.W.Frag) : R2 := fun x y H Q => rNe x y H Q ∨ rNeD K x y H Q
theorem dec_str {i j : Str} : decide (V.str i = V.str j) = decide (i = j) := by
  rw [Bool.eq_iff_iff]
  simp
theorem dec_int' {i j : Int} : decide (V.int i = V.int j) = decide (i = j) := by
  rw [Bool.eq_iff_iff]
  simp
theorem hEq : ∀ x y res v u ρ F H, RS K σ ρ F H → PK K F H x v → PK K F H y u → kEq x y = some res → ∀ Q, FinR K σ ρ F H res Q → rEq2 K v u H Q := by
  intro x y res v u ρ F H rs hx hy e Q q
  unfold kEq eqS at e
  split at e
  · cases e
    cases hx.str
    cases hy.str
    refine .inl ⟨rfl, ?_⟩
    rw [dec_str]
    exact q.dat rs (.bl _)
  · cases e
    cases hx.int
    cases hy.int
    refine .inl ⟨rfl, ?_⟩
    rw [dec_int']
    exact q.dat rs (.bl _)
  · unfold eqD at e
    split at e
    · rename_i hc
      cases e
      exact .inr ⟨_, _, hx.dp rs.sub hc.1, hy.dp rs.sub hc.2.1, hc.2.2.1, hc.2.2.2, q.dat rs (.bl _)⟩
    · cases e
theorem hNe : ∀ x y res v u ρ F H, RS K σ ρ F H → PK K F H x v → PK K F H y u → kNe x y = some res → ∀ Q, FinR K σ ρ F H res Q → rNe2 K v u H Q := by
  intro x y res v u ρ F H rs hx hy e Q q
  unfold kNe eqS at e
  split at e
  · cases e
    cases hx.str
    cases hy.str
    refine .inl ⟨rfl, ?_⟩
    rw [dec_str]
    exact q.dat rs (.bl _)
  · cases e
    cases hx.int
    cases hy.int
    refine .inl ⟨rfl, ?_⟩
    rw [dec_int']
    exact q.dat rs (.bl _)
  · unfold eqD at e
    split at e
    · rename_i hc
      cases e
      exact .inr ⟨_, _, hx.dp rs.sub hc.1, hy.dp rs.sub hc.2.1, hc.2.2.1, hc.2.2.2, q.dat rs (.bl _)⟩
    · cases e
def isNon : D → Bool
  | .non => true
  | _ => false
theorem PK.isNon (h : PK K F H x v) : decide (v = .non) = isNon x := by
  rcases h with h | ⟨p, rfl, _, o, _, w⟩
  · cases h <;> rfl
  · cases x with
    | non => cases o <;> exact w.elim
    | _ => rfl
def kIs (b : Bool) : D → D → Option R
  | x, .non => some (.d (.bl (if b then isNon x else !isNon x)))
  | _, _ => none
theorem hIs : ∀ x y res v u ρ F H, RS K σ ρ F H → PK K F H x v → PK K F H y u → kIs true x y = some res → ∀ Q, FinR K σ ρ F H res Q → (u = .non ∧ Q (.bl (decide (v = .non))) H) := by
  intro x y res v u ρ F H rs hx hy e Q q
  unfold kIs at e
  split at e
  · cases e
    cases hy.non
    refine ⟨rfl, ?_⟩
    rw [hx.isNon]
    exact q.dat rs (.bl _)
  · cases e
theorem hIsN : ∀ x y res v u ρ F H, RS K σ ρ F H → PK K F H x v → PK K F H y u → kIs false x y = some res → ∀ Q, FinR K σ ρ F H res Q → (u = .non ∧ Q (.bl (!decide (v = .non))) H) := by
  intro x y res v u ρ F H rs hx hy e Q q
  unfold kIs at e
  split at e
  · cases e
    cases hy.non
    refine ⟨rfl, ?_⟩
    rw [hx.isNon]
    exact q.dat rs (.bl _)
  · cases e
/-! in -/
def flatD : D → Bool
  | .non => true
  | .bl _ => true
  | .int _ => true
  | .str _ => true
  | _ => false
theorem Rep.flat (h : Rep K F x v) (e : flatD x = true) : flatV v = true ∧ ∀ {y : D} {u : V}, Rep K F y u → flatD y = true → eqV u v = PyData.eqv (toPy y) (toPy x) := by
  cases h with
  | tup _ _ => cases e
  | lst _ _ => cases e
  | dK _ _ _ => cases e
  | dT _ _ _ => cases e
  | src _ => cases e
  | ktup _ _ => cases e
  | _ => exact ⟨rfl, fun {y u} r f => by
      cases r with
      | tup _ _ => cases f
      | lst _ _ => cases f
      | dK _ _ _ => cases f
      | dT _ _ _ => cases f
      | src _ => cases f
      | ktup _ _ => cases f
      | _ => simp [eqV, toPy, PyData.eqv]⟩
theorem Reps.flat (h : Rep K F x v) (e : flatD x = true) : ∀ {ys : List D} {us : List V}, Reps K F ys us → ys.all flatD = true → us.all flatV = true ∧ inV v us = ys.any fun y => PyData.eqv (toPy y) (toPy x)
  | _, _, .nil, _ => ⟨rfl, rfl⟩
  | y :: ys, u :: us, .cons r t, f => by
    rw [List.all_cons, Bool.and_eq_true] at f
    obtain ⟨i1, i2⟩ := Reps.flat h e t f.2
    have q := (h.flat e).2 r f.1
    refine ⟨by rw [List.all_cons, (r.flat f.1).1, i1]; rfl, ?_⟩
    unfold inV at i2 ⊢
    rw [List.any_cons, List.any_cons, q, i2]
theorem PK.flatR (h : PK K F H x v) (e : flatD x = true) : Rep K F x v := by
  rcases h with h | ⟨p, _, _, o, _, w⟩
  · exact h
  · cases x with
    | lst _ => cases e
    | dK _ => cases e
    | dT _ => cases e
    | _ => cases o <;> exact w.elim
def inD (x y : D) : Option Bool := match y with
  | .tup ys => if flatD x = true ∧ ys.all flatD = true then some (ys.any fun y => PyData.eqv (toPy y) (toPy x)) else none
  | .ktup ys => if flatD x = true ∧ ys.all flatD = true then some (ys.any fun y => PyData.eqv (toPy y) (toPy x)) else none
  | .lst ys => if isPy x = true ∧ isPys ys = true ∧ SeqAt.shaped (toPy x) = true ∧ SeqAt.shaped (.list (toPys ys)) = true then some ((toPys ys).any fun z => PyData.eqv z (toPy x)) else none
  | .str z => (match x with
    | .str i => some (!(Builtin.Str.occurrences z i 0 z.length 1).isEmpty)
    | _ => none)
  | _ => none
def kIn (x y : D) : Option R := (inD x y).map fun b => .d (.bl b)
def kNi (x y : D) : Option R := (inD x y).map fun b => .d (.bl !b)
def rIn3 (K : PySem.W.Frag) : R2 := fun x y H Q => rIn K false x y H Q ∨ rInD K x y H Q ∨ (∃ i j, x = .str i ∧ y = .str j ∧ Q (.bl (!(Builtin.Str.occurrences j i 0 j.length 1).isEmpty)) H)
def rNi3 (K : PySem.W.Frag) : R2 := fun x y H Q => rIn K true x y H Q ∨ rNotInD K x y H Q ∨ (∃ i j, x = .str i ∧ y = .str j ∧ Q (.bl (!(!(Builtin.Str.occurrences j i 0 j.length 1).isEmpty))) H)
theorem op_in3 {X : Cx} (hu : X.A.units + 65 < cLine) : OpR X (compareOp .In) (rIn3 X.K) := OpR.or op_in_seq (OpR.or (op_inD hu) op_in_str)
theorem op_ni3 {X : Cx} (hu : X.A.units + 65 < cLine) : OpR X (compareOp .NotIn) (rNi3 X.K) := OpR.or op_notIn_seq (OpR.or (op_notInD hu) op_notin_str)
theorem hIn : ∀ x y res v u ρ F H, RS K σ ρ F H → PK K F H x v → PK K F H y u → kIn x y = some res → ∀ Q, FinR K σ ρ F H res Q → rIn3 K v u H Q := by
  intro x y res v u ρ F H rs hx hy e Q q
  unfold kIn inD at e
  split at e
  · split at e
    · rename_i hc
      cases e
      obtain ⟨a, xs, rfl, ha, ra⟩ := hy.tup rs.sub
      obtain ⟨i1, i2⟩ := Reps.flat (hx.flatR hc.1) hc.1 ra hc.2
      refine .inl ⟨a, xs, rfl, .inr ha, ((hx.flatR hc.1).flat hc.1).1, i1, ?_⟩
      rw [if_neg (by decide), i2]
      exact q.dat rs (.bl _)
    · cases e
  · split at e
    · rename_i hc
      cases e
      obtain ⟨a, xs, rfl, ha, ra⟩ := hy.ktup rs.sub
      obtain ⟨i1, i2⟩ := Reps.flat (hx.flatR hc.1) hc.1 ra hc.2
      refine .inl ⟨a, xs, rfl, .inr ha, ((hx.flatR hc.1).flat hc.1).1, i1, ?_⟩
      rw [if_neg (by decide), i2]
      exact q.dat rs (.bl _)
    · cases e
  · split at e
    · rename_i hc
      cases e
      exact .inr (.inl ⟨_, _, hx.dp rs.sub hc.1, hy.dp rs.sub hc.2.1, hc.2.2.1, hc.2.2.2, q.dat rs (.bl _)⟩)
    · cases e
  · split at e
    · cases e
      cases hx.str
      cases hy.str
      exact .inr (.inr ⟨_, _, rfl, rfl, q.dat rs (.bl _)⟩)
    · cases e
  · cases e
theorem hNi : ∀ x y res v u ρ F H, RS K σ ρ F H → PK K F H x v → PK K F H y u → kNi x y = some res → ∀ Q, FinR K σ ρ F H res Q → rNi3 K v u H Q := by
  intro x y res v u ρ F H rs hx hy e Q q
  unfold kNi inD at e
  split at e
  · split at e
    · rename_i hc
      cases e
      obtain ⟨a, xs, rfl, ha, ra⟩ := hy.tup rs.sub
      obtain ⟨i1, i2⟩ := Reps.flat (hx.flatR hc.1) hc.1 ra hc.2
      refine .inl ⟨a, xs, rfl, .inr ha, ((hx.flatR hc.1).flat hc.1).1, i1, ?_⟩
      rw [if_pos rfl, i2]
      exact q.dat rs (.bl _)
    · cases e
  · split at e
    · rename_i hc
      cases e
      obtain ⟨a, xs, rfl, ha, ra⟩ := hy.ktup rs.sub
      obtain ⟨i1, i2⟩ := Reps.flat (hx.flatR hc.1) hc.1 ra hc.2
      refine .inl ⟨a, xs, rfl, .inr ha, ((hx.flatR hc.1).flat hc.1).1, i1, ?_⟩
      rw [if_pos rfl, i2]
      exact q.dat rs (.bl _)
    · cases e
  · split at e
    · rename_i hc
      cases e
      exact .inr (.inl ⟨_, _, hx.dp rs.sub hc.1, hy.dp rs.sub hc.2.1, hc.2.2.1, hc.2.2.2, q.dat rs (.bl _)⟩)
    · cases e
  · split at e
    · cases e
      cases hx.str
      cases hy.str
      exact .inr (.inr ⟨_, _, rfl, rfl, q.dat rs (.bl _)⟩)
    · cases e
  · cases e
section
variable {X : Cx} {a b c : Expr} {pos : Pos}
/-- a comparison's rule and its function -/
structure CmpF (X : Cx) (op : CmpOp) (k : D → D → Option R) (r : R2) : Prop where
  rule : OpR X (compareOp op) r
  fn : ∀ {σ : St} x y res v u ρ F H, RS (kj J X) σ ρ F H → PK (kj J X) F H x v → PK (kj J X) F H y u → k x y = some res → ∀ Q, FinR (kj J X) σ ρ F H res Q → r v u H Q
theorem cLt : CmpF X .Lt kLt (rI0 fun i j => .bl (decide (i < j))) := ⟨op_lt, hCmp⟩
theorem cLe : CmpF X .LtE kLe (rI0 fun i j => .bl (decide (i ≤ j))) := ⟨op_le, hCmp⟩
theorem cGt : CmpF X .Gt kGt (rI0 fun i j => .bl (decide (j < i))) := ⟨op_gt, hCmp⟩
theorem cGe : CmpF X .GtE kGe (rI0 fun i j => .bl (decide (j ≤ i))) := ⟨op_ge, hCmp⟩
theorem cEq (hu : X.A.units + 64 < cLine) : CmpF X .Eq kEq (rEq2 X.K) := ⟨OpR.or op_eq (op_eqD hu), hEq⟩
theorem cNe (hu : X.A.units + 64 < cLine) : CmpF X .NotEq kNe (rNe2 X.K) := ⟨OpR.or op_ne (op_neD hu), hNe⟩
theorem cIs : CmpF X .Is (kIs true) (fun x y H Q => y = .non ∧ Q (.bl (decide (x = .non))) H) := ⟨op_isN, hIs⟩
theorem cIsN : CmpF X .IsNot (kIs false) (fun x y H Q => y = .non ∧ Q (.bl (!decide (x = .non))) H) := ⟨op_notN, hIsN⟩
theorem cIn (hu : X.A.units + 65 < cLine) : CmpF X .In kIn (rIn3 X.K) := ⟨op_in3 hu, hIn⟩
theorem cNi (hu : X.A.units + 65 < cLine) : CmpF X .NotIn kNi (rNi3 X.K) := ⟨op_ni3 hu, hNi⟩
theorem pe_cmpD {op : CmpOp} {k : D → D → Option R} {r : R2} (C : CmpF X op k r) (ha : PE X a (LE (kj J X) X.mg W fa)) (hb : PE X b (LE (kj J X) X.mg W fb)) (hm : behindInMarks op b = false) : PE X (.Compare a [op] [b] pos) (LE (kj J X) X.mg W (o2 fa fb k)) :=
  PE.imp (pe_cmpR C.rule ha hb hm) fun _ _ _ h => LE.two h fun x y res v u ρ F H rs hx hy e q => C.fn x y res v u ρ F H rs hx hy e _ q
end

/-! ### tests -/
def LT (K : Fg) (mg : MG) (W : WX) (f : Dx Bool) : TT := fun σ H Q => ∃ ρ F r ρ', RS K σ ρ F H ∧ f ρ = some (r, ρ') ∧
  match (r : Except Exn Bool) with
  | .ok b => ∀ F' H', RS K σ ρ' F' H' → Gr σ ρ F H σ ρ' F' H' → Q b H'
  | .error x => EX K mg W σ ρ F H x ρ'
def kTru : D → Option Bool
  | .non => some false
  | .bl b => some b
  | .int i => some (i != 0)
  | .str y => if y.length ≤ sizeLine then some ((y.length : Int) != 0) else none
  | .tup xs => some (!xs.isEmpty)
  | .lst xs => some (!xs.isEmpty)
  | _ => none
def tV (f : DE) : Dx Bool := bE f fun a => fun ρ => match (pk ρ (nrm a)).bind kTru with
  | some b => some (.ok b, ρ)
  | none => none
theorem Reps.emp {xs : List D} {vs : List V} (h : Reps K F xs vs) : (!vs.isEmpty) = !xs.isEmpty := by cases h <;> rfl
theorem kTru_ok (rs : RS K σ ρ F H) (h : PK K F H x v) {b : Bool} (e : kTru x = some b) : TruV K v H b := by
  cases x with
  | non => cases e; cases h.non; rfl
  | bl c => cases e; cases h.bl; rfl
  | int i => cases e; cases h.int; rfl
  | str y =>
    have e : (if y.length ≤ sizeLine then some ((y.length : Int) != 0) else none) = some b := e
    split at e
    · cases e
      cases h.str
      exact ⟨by assumption, rfl⟩
    · cases e
  | tup xs =>
    cases e
    obtain ⟨a, vs, rfl, ha, ra⟩ := h.tup rs.sub
    exact .inr (.inl ⟨vs, ha, ra.emp.symm⟩)
  | lst xs =>
    cases e
    obtain ⟨a, vs, rfl, ha, ra⟩ := h.lst rs.sub
    exact .inl ⟨vs, SqL.of ha, ra.emp.symm⟩
  | _ => cases e
theorem LT.val {Q : Bool → Hp → Prop} (h : LT K mg W (tV f) σ H Q) : LE K mg W f σ H fun v H' => ∃ k, TruV K v H' k ∧ Q k H' := by
  obtain ⟨ρ, F, r, ρ', rs, e, q⟩ := h
  refine LE.opnd (k := fun a => fun ρ => match (pk ρ a).bind kTru with
    | some b => some (.ok b, ρ)
    | none => none) rs e (fun x hx => by subst hx; exact q) fun a v ρ1 F1 H1 rs1 g1 ro e1 => ?_
  cases ea : pk ρ1 a with
  | none => simp [ea] at e1
  | some x =>
    cases eb : kTru x with
    | none => simp [ea, eb] at e1
    | some b =>
      simp only [ea, eb, Option.bind_some] at e1
      cases e1
      exact ⟨b, kTru_ok rs1 (pk_ok rs1 ro ea) eb, q F1 H1 rs1 g1⟩
theorem pt_valD {X : Cx} {a : Expr} (ha : PE X a (LE (kj J X) X.mg W fa)) (he : ∀ whole, isTrue a X.env whole = (do let v ← whole; standAt a.pos; holding [v] (truthy v)) := by intro _; rfl) : PT X a (LT (kj J X) X.mg W (tV fa)) :=
  PT.imp (pt_truth ha he) fun _ _ _ h => LT.val h
/-- a comparison as a test -/
def tB (f : DE) : Dx Bool := bE f fun a => fun ρ => match a with
  | .d (.bl b) => some (.ok b, ρ)
  | _ => none
theorem LT.bool {Q : Bool → Hp → Prop} (h : LT K mg W (tB f) σ H Q) : LE K mg W f σ H fun v H' => ∃ k, v = .bl k ∧ Q k H' := by
  obtain ⟨ρ, F, r, ρ', rs, e, q⟩ := h
  refine LE.bind rs e (fun x hx => by subst hx; exact q) fun a v ρ1 F1 H1 rs1 g1 rr e1 => ?_
  cases a with
  | d x =>
    cases x with
    | bl b =>
      cases e1
      cases rr
      exact ⟨b, rfl, q F1 H1 rs1 g1⟩
    | _ => cases e1
  | _ => cases e1
theorem pt_cmpD {X : Cx} {a b : Expr} {pos : Pos} {op : CmpOp} {k : D → D → Option R} {r : R2} (C : CmpF X op k r) (ha : PE X a (LE (kj J X) X.mg W fa)) (hb : PE X b (LE (kj J X) X.mg W fb)) (hm : behindInMarks op b = false) :
    PT X (.Compare a [op] [b] pos) (LT (kj J X) X.mg W (tB (o2 fa fb k))) :=
  PT.imp (pt_cmpR C.rule ha hb hm) fun _ _ _ h => LE.two (LT.bool h) fun x y res v u ρ F H rs hx hy e q => C.fn x y res v u ρ F H rs hx hy e _ q
variable {t t1 t2 : Dx Bool}
theorem LT.bind {β : Type} {k : Bool → Dx β} {r : Except Exn β} {G : Bool → Hp → Prop} (rs : RS K σ ρ F H) (e : bE t k ρ = some (r, ρ'))
    (herr : ∀ x, r = .error x → EX K mg W σ ρ F H x ρ')
    (hok : ∀ b ρ1 F1 H1, RS K σ ρ1 F1 H1 → Gr σ ρ F H σ ρ1 F1 H1 → k b ρ1 = some (r, ρ') → G b H1) : LT K mg W t σ H G := by
  unfold bE at e
  cases q : t ρ with
  | none => rw [q] at e; cases e
  | some z =>
    obtain ⟨ra, ρ1⟩ := z
    rw [q] at e
    cases ra with
    | error x =>
      cases e
      exact ⟨ρ, F, .error x, ρ', rs, q, herr x rfl⟩
    | ok a => exact ⟨ρ, F, .ok a, ρ1, rs, q, fun F' H' rs' g => hok a ρ1 F' H' rs' g e⟩
theorem EX.trans {x : Exn} (g : Gr σ ρ F H σ ρ1 F1 H1) (h : EX K mg W σ ρ F H x ρ') : EX K mg W σ ρ1 F1 H1 x ρ' := fun cls d F' H' rs' g' xr => h cls d F' H' rs' (g.trans g') xr
def tAn (t1 t2 : Dx Bool) : Dx Bool := bE t1 fun b => if b then t2 else rE false
def tOrr (t1 t2 : Dx Bool) : Dx Bool := bE t1 fun b => if b then rE true else t2
def tNo (t : Dx Bool) : Dx Bool := bE t fun b => rE !b
theorem LT.and {Q : Bool → Hp → Prop} (h : LT K mg W (tAn t1 t2) σ H Q) : tAnd (LT K mg W t1) (LT K mg W t2) σ H Q := by
  obtain ⟨ρ, F, r, ρ', rs, e, q⟩ := h
  refine LT.bind rs e (fun x hx => by subst hx; exact q) fun b ρ1 F1 H1 rs1 g1 e1 => ?_
  cases b with
  | false =>
    cases e1
    rw [if_neg (by decide)]
    exact q F1 H1 rs1 g1
  | true =>
    rw [if_pos rfl]
    refine ⟨ρ1, F1, r, ρ', rs1, e1, ?_⟩
    cases r with
    | error x => exact EX.trans g1 q
    | ok c => exact fun F' H' rs' g' => q F' H' rs' (g1.trans g')
theorem LT.or {Q : Bool → Hp → Prop} (h : LT K mg W (tOrr t1 t2) σ H Q) : tOr (LT K mg W t1) (LT K mg W t2) σ H Q := by
  obtain ⟨ρ, F, r, ρ', rs, e, q⟩ := h
  refine LT.bind rs e (fun x hx => by subst hx; exact q) fun b ρ1 F1 H1 rs1 g1 e1 => ?_
  cases b with
  | true =>
    cases e1
    rw [if_pos rfl]
    exact q F1 H1 rs1 g1
  | false =>
    rw [if_neg (by decide)]
    refine ⟨ρ1, F1, r, ρ', rs1, e1, ?_⟩
    cases r with
    | error x => exact EX.trans g1 q
    | ok c => exact fun F' H' rs' g' => q F' H' rs' (g1.trans g')
theorem LT.not {Q : Bool → Hp → Prop} (h : LT K mg W (tNo t) σ H Q) : tNot (LT K mg W t) σ H Q := by
  obtain ⟨ρ, F, r, ρ', rs, e, q⟩ := h
  refine LT.bind rs e (fun x hx => by subst hx; exact q) fun b ρ1 F1 H1 rs1 g1 e1 => ?_
  cases e1
  exact q F1 H1 rs1 g1
theorem PW.imp {X : Cx} {e : Expr} {t t' : TT} (h : PW X e t) (i : ∀ σ H Q, t' σ H Q → t σ H Q) : PW X e t' := ⟨fun wh pins s σ H Q I q => h.run wh pins s σ H Q I (i σ H Q q)⟩
section
variable {X : Cx} {a b c : Expr} {pos : Pos} {rest : List Expr}
theorem pw_andD (ha : PT X a (LT (kj J X) X.mg W t1)) (hb : PW X (.BoolOp .And (b :: rest) pos) (LT (kj J X) X.mg W t2)) : PW X (.BoolOp .And (a :: b :: rest) pos) (LT (kj J X) X.mg W (tAn t1 t2)) := PW.imp (pw_and ha hb) fun _ _ _ h => LT.and h
theorem pw_orD (ha : PT X a (LT (kj J X) X.mg W t1)) (hb : PW X (.BoolOp .Or (b :: rest) pos) (LT (kj J X) X.mg W t2)) : PW X (.BoolOp .Or (a :: b :: rest) pos) (LT (kj J X) X.mg W (tOrr t1 t2)) := PW.imp (pw_or ha hb) fun _ _ _ h => LT.or h
theorem pt_notD (ha : PT X a (LT (kj J X) X.mg W t)) : PT X (.UnaryOp .Not a pos) (LT (kj J X) X.mg W (tNo t)) := PT.imp (pt_not ha) fun _ _ _ h => LT.not h
def xIf (t : Dx Bool) (fa fb : DE) : DE := bE t fun b => if b then fa else fb
theorem pe_ifD (ht : PT X c (LT (kj J X) X.mg W t)) (ha : PE X a (LE (kj J X) X.mg W fa)) (hb : PE X b (LE (kj J X) X.mg W fb)) : PE X (.IfExp c a b pos) (LE (kj J X) X.mg W (xIf t fa fb)) :=
  PE.imp (pe_ifExp ht ha hb) fun σ H Q h => by
    obtain ⟨ρ, F, r, ρ', rs, e, q⟩ := h
    refine LT.bind rs e (fun x hx => by subst hx; exact q) fun b ρ1 F1 H1 rs1 g1 e1 => ?_
    have fin : EE (kj J X) X.mg W σ ρ1 F1 H1 r ρ' Q := by
      cases r with
      | error x => exact EX.trans g1 q
      | ok c => exact fun v F' H' rs' g' rr => q v F' H' rs' (g1.trans g') (RR.weak g1.live rr)
    cases b with
    | true => exact ⟨ρ1, F1, r, ρ', rs1, e1, fin⟩
    | false => exact ⟨ρ1, F1, r, ρ', rs1, e1, fin⟩
end
end
end Dn
end

section
set_option Elab.async false
set_option linter.all false
set_option maxRecDepth 100000
set_option maxHeartbeats 2000000
/-! Dn: a def's promise by its function; calls. -/
namespace Dn
open PySem PySem.Spec L2
/-- a def's function: what the parameters hold; what comes back, and what the parameters hold then -/
abbrev FD := List S → Option (Except Exn R × List S)
def sl (ss : List S) : Env := ss.map some
def st (vs : List V) : L2.St := vs.map some
/-- the promise of a def with n parameters: it is its function -/
def spD (K : Fg) (mg : MG) (n : Nat) (f : FD) : Sp := fun vs H Q E => ∃ ss F r outs, RS K (st vs) (sl ss) F H ∧ ss.length = n ∧ f ss = some (r, outs) ∧
  ∀ F' H', RS K (st vs) (sl outs) F' H' → Gr (st vs) (sl ss) F H (st vs) (sl outs) F' H' →
    match (r : Except Exn R) with
    | .ok a => ∀ v, RR K (st vs) (sl outs) F' H' H a v → Q v H'
    | .error x => ∀ cls d, XR K mg F' x cls d → E cls d H'
theorem spD_len {K : Fg} {mg : MG} {n : Nat} {f : FD} {ps : List Str} (h : n = ps.length) : ∀ vs H Q E, spD K mg n f vs H Q E → vs.length = ps.length := by
  rintro vs H Q E ⟨ss, F, r, outs, rs, hl, _⟩
  have e := rs.len
  unfold sl st at e
  rw [List.length_map, List.length_map] at e
  omega
def toS (ρ : Env) : List R → Option (List S)
  | [] => some []
  | .d x :: as => (toS ρ as).map (.d x :: ·)
  | .o _ :: _ => none
  | .s i :: as => match gt ρ i, toS ρ as with
    | some s, some ss => some (s :: ss)
    | _, _ => none
/-- the slots among operands -/
def slots : List R → List Nat
  | [] => []
  | .s i :: as => i :: slots as
  | _ :: as => slots as
/-- what was lent comes back -/
def wb : Env → List R → List S → Env
  | ρ, .s i :: as, o :: os => wb (ρ.set i (some o)) as os
  | ρ, _ :: as, _ :: os => wb ρ as os
  | ρ, _, _ => ρ
def noS : Except Exn R → Bool
  | .ok (.s _) => false
  | _ => true
/-- what a call gives -/
def cEnd (f : FD) (as : List R) (ρ : Env) (ss : List S) : Option (Except Exn R × Env) := match f ss with
  | some (r, outs) => if noS r = true ∧ (slots as).Nodup then some (r, wb ρ as outs) else none
  | none => none
def dCall (f : FD) (fs : List DE) (ds : List D) : DE := bE (eA fs) fun as => fun ρ => match toS ρ as with
  | some ss => cEnd f as ρ (ss ++ ds.map .d)
  | none => none
theorem cEnd_some {f : FD} {as : List R} {ρ ρ' : Env} {ss : List S} {r : Except Exn R} (e : cEnd f as ρ ss = some (r, ρ')) : ∃ outs, f ss = some (r, outs) ∧ noS r = true ∧ (slots as).Nodup ∧ ρ' = wb ρ as outs := by
  unfold cEnd at e
  cases q : f ss with
  | none => rw [q] at e; cases e
  | some z =>
    obtain ⟨r2, outs⟩ := z
    rw [q] at e
    dsimp only at e
    split at e
    · rename_i h
      cases e
      exact ⟨outs, rfl, h.1, h.2, rfl⟩
    · cases e
theorem gt_sl {ss : List S} {j : Nat} : gt (sl ss) j = ss[j]? := by
  induction ss generalizing j with
  | nil => rfl
  | cons a r ih =>
    cases j with
    | zero => rfl
    | succ j => exact ih
theorem st_get {vs : List V} {j : Nat} {v : V} : (st vs)[j]? = some (some v) ↔ vs[j]? = some v := by
  unfold st
  rw [List.getElem?_map]
  cases vs[j]? with
  | none => simp
  | some w => simp
theorem wb_len : ∀ {as : List R} {os : List S} {ρ : Env}, (wb ρ as os).length = ρ.length
  | [], os, ρ => by cases os <;> rfl
  | a :: as, [], ρ => by cases a <;> rfl
  | .s i :: as, o :: os, ρ => by
    show (wb (ρ.set i (some o)) as os).length = _
    rw [wb_len, List.length_set]
  | .d _ :: as, o :: os, ρ => wb_len (as := as) (os := os) (ρ := ρ)
  | .o _ :: as, o :: os, ρ => wb_len (as := as) (os := os) (ρ := ρ)
theorem wb_out : ∀ {as : List R} {os : List S} {ρ : Env} {i : Nat}, i ∉ slots as → gt (wb ρ as os) i = gt ρ i
  | [], os, ρ, i, _ => by cases os <;> rfl
  | a :: as, [], ρ, i, _ => by cases a <;> rfl
  | .s k :: as, o :: os, ρ, i, h => by
    show gt (wb (ρ.set k (some o)) as os) i = _
    have h1 : i ≠ k ∧ i ∉ slots as := by
      constructor
      · intro z
        exact h (by rw [z]; exact List.mem_cons_self)
      · intro z
        exact h (List.mem_cons_of_mem _ z)
    rw [wb_out h1.2, gt_ne h1.1]
  | .d _ :: as, o :: os, ρ, i, h => wb_out (as := as) (os := os) (ρ := ρ) h
  | .o _ :: as, o :: os, ρ, i, h => wb_out (as := as) (os := os) (ρ := ρ) h
theorem wb_at : ∀ {as : List R} {os : List S} {ρ : Env} {i j : Nat} {o : S}, (slots as).Nodup → as[j]? = some (.s i) → os[j]? = some o → i < ρ.length → gt (wb ρ as os) i = some o
  | [], _, _, _, _, _, _, h, _, _ => by simp at h
  | _ :: _, [], _, _, _, _, _, _, h, _ => by simp at h
  | a :: as, p :: os, ρ, i, 0, o, nd, h1, h2, hl => by
    simp at h1 h2
    subst h1
    subst h2
    show gt (wb (ρ.set i (some p)) as os) i = _
    have n : i ∉ slots as := (List.nodup_cons.mp nd).1
    rw [wb_out n, gt_same hl]
  | .s k :: as, p :: os, ρ, i, j + 1, o, nd, h1, h2, hl => wb_at (j := j) (ρ := ρ.set k (some p)) (List.nodup_cons.mp nd).2 (by simpa using h1) (by simpa using h2) (by rw [List.length_set]; exact hl)
  | .d _ :: as, p :: os, ρ, i, j + 1, o, nd, h1, h2, hl => wb_at (as := as) (j := j) nd (by simpa using h1) (by simpa using h2) hl
  | .o _ :: as, p :: os, ρ, i, j + 1, o, nd, h1, h2, hl => wb_at (as := as) (j := j) nd (by simpa using h1) (by simpa using h2) hl
theorem mem_slots : ∀ {as : List R} {i : Nat}, i ∈ slots as → ∃ j : Nat, as[j]? = some (.s i)
  | .s k :: as, i, h => by
    rcases List.mem_cons.mp h with h | h
    · exact ⟨0, by rw [h]; rfl⟩
    · obtain ⟨j, e⟩ := mem_slots h
      exact ⟨j + 1, e⟩
  | .d _ :: as, i, h => by
    obtain ⟨j, e⟩ := mem_slots (as := as) h
    exact ⟨j + 1, e⟩
  | .o _ :: as, i, h => by
    obtain ⟨j, e⟩ := mem_slots (as := as) h
    exact ⟨j + 1, e⟩
theorem slots_mem : ∀ {as : List R} {i j : Nat}, as[j]? = some (.s i) → i ∈ slots as
  | [], _, _, h => by simp at h
  | a :: as, i, 0, h => by
    simp at h
    subst h
    exact List.mem_cons_self
  | .s l :: as, i, j + 1, h => List.mem_cons_of_mem _ (slots_mem (j := j) (by simpa using h))
  | .d _ :: as, i, j + 1, h => slots_mem (as := as) (j := j) (by simpa using h)
  | .o _ :: as, i, j + 1, h => slots_mem (as := as) (j := j) (by simpa using h)
theorem nodup_slots : ∀ {as : List R} {i j k : Nat}, (slots as).Nodup → as[j]? = some (.s i) → as[k]? = some (.s i) → j = k
  | [], _, _, _, _, h, _ => by simp at h
  | a :: as, i, 0, 0, _, _, _ => rfl
  | a :: as, i, 0, k + 1, nd, h1, h2 => by
    simp at h1 h2
    subst h1
    refine absurd ?_ (List.nodup_cons.mp nd).1
    clear nd
    induction as generalizing k with
    | nil => simp at h2
    | cons b r ih =>
      cases k with
      | zero =>
        simp at h2
        subst h2
        exact List.mem_cons_self
      | succ k =>
        have := ih k (by simpa using h2)
        cases b with
        | s l => exact List.mem_cons_of_mem _ this
        | d _ => exact this
        | o _ => exact this
  | a :: as, i, j + 1, 0, nd, h1, h2 => by
    exact (nodup_slots (j := 0) (k := j + 1) nd h2 h1).symm
  | a :: as, i, j + 1, k + 1, nd, h1, h2 => by
    have nd' : (slots as).Nodup := by
      cases a with
      | s l => exact (List.nodup_cons.mp nd).2
      | d _ => exact nd
      | o _ => exact nd
    exact congrArg (· + 1) (nodup_slots nd' (by simpa using h1) (by simpa using h2))
section
variable {K : Fg} {mg : MG} {W : WX} {σ : L2.St} {ρ ρ1 ρ' : Env} {F F1 H H1 H0 : Hp}
theorem toS_get : ∀ {as : List R} {ss : List S} {j : Nat} {s : S}, toS ρ as = some ss → ss[j]? = some s → ∃ a, as[j]? = some a ∧ ((∃ x, a = .d x ∧ s = .d x) ∨ ∃ i, a = .s i ∧ gt ρ i = some s)
  | [], ss, j, s, e, h => by
    cases e
    simp at h
  | .d x :: as, ss, j, s, e, h => by
    cases q : toS ρ as with
    | none => simp [toS, q] at e
    | some ts =>
      simp [toS, q] at e
      subst e
      cases j with
      | zero =>
        simp at h
        exact ⟨_, rfl, .inl ⟨x, rfl, h.symm⟩⟩
      | succ j => exact toS_get (j := j) q (by simpa using h)
  | .o x :: as, ss, j, s, e, h => by cases e
  | .s i :: as, ss, j, s, e, h => by
    cases g : gt ρ i with
    | none => simp [toS, g] at e
    | some z =>
      cases q : toS ρ as with
      | none => simp [toS, q] at e
      | some ts =>
        simp [toS, q, g] at e
        subst e
        cases j with
        | zero =>
          simp at h
          subst h
          exact ⟨_, rfl, .inr ⟨i, rfl, g⟩⟩
        | succ j => exact toS_get (j := j) q (by simpa using h)
theorem toS_len : ∀ {as : List R} {ss : List S}, toS ρ as = some ss → ss.length = as.length
  | [], ss, e => by cases e; rfl
  | .d x :: as, ss, e => by
    cases q : toS ρ as with
    | none => simp [toS, q] at e
    | some ts =>
      simp [toS, q] at e
      subst e
      exact congrArg (· + 1) (toS_len q)
  | .o x :: as, ss, e => by cases e
  | .s i :: as, ss, e => by
    cases g : gt ρ i with
    | none => simp [toS, g] at e
    | some z =>
      cases q : toS ρ as with
      | none => simp [toS, q] at e
      | some ts =>
        simp [toS, q, g] at e
        subst e
        exact congrArg (· + 1) (toS_len q)
theorem ROs.get : ∀ {as : List R} {vs : List V} {j : Nat} {a : R}, ROs K σ F as vs → as[j]? = some a → ∃ v, vs[j]? = some v ∧ RO K σ F a v
  | _, _, _, _, .nil, h => by simp at h
  | _, _, 0, _, .cons r _, h => by
    simp at h
    subst h
    exact ⟨_, rfl, r⟩
  | _, _, j + 1, _, .cons _ t, h => ROs.get (j := j) t (by simpa using h)
theorem ROs.length : ∀ {as : List R} {vs : List V}, ROs K σ F as vs → as.length = vs.length
  | _, _, .nil => rfl
  | _, _, .cons _ t => congrArg (· + 1) (ROs.length t)
/-- the callee's world -/
theorem RS.call {as : List R} {vs dvs : List V} {ss : List S} {ds : List D} (rs : RS K σ ρ F H) (ro : ROs K σ F as vs) (e : toS ρ as = some ss) (nd : (slots as).Nodup) (hd : Reps K F ds dvs) :
    RS K (st (vs ++ dvs)) (sl (ss ++ ds.map .d)) F H := by
  have hl : ss.length = vs.length := (toS_len e).trans ro.length
  have at_ : ∀ (j : Nat) (s : S), (ss ++ ds.map .d)[j]? = some s → (∃ x v, s = .d x ∧ (vs ++ dvs)[j]? = some v ∧ Rep K F x v) ∨ ∃ i, as[j]? = some (.s i) ∧ gt ρ i = some s ∧ ∃ v, (vs ++ dvs)[j]? = some v ∧ σ[i]? = some (some v) := by
    intro j s h
    by_cases q : j < ss.length
    · rw [List.getElem?_append_left q] at h
      obtain ⟨a, ha, h⟩ := toS_get e h
      obtain ⟨v, hv, r⟩ := ro.get ha
      have hv' : (vs ++ dvs)[j]? = some v := by rw [List.getElem?_append_left (by omega)]; exact hv
      rcases h with ⟨x, rfl, rfl⟩ | ⟨i, rfl, h⟩
      · exact .inl ⟨x, v, rfl, hv', r⟩
      · exact .inr ⟨i, ha, h, v, hv', r⟩
    · rw [List.getElem?_append_right (by omega), List.getElem?_map] at h
      cases g : ds[j - ss.length]? with
      | none => rw [g] at h; cases h
      | some x =>
        rw [g] at h
        cases h
        obtain ⟨v, hv, r⟩ := hd.get g
        exact .inl ⟨x, v, rfl, by rw [List.getElem?_append_right (by omega), ← hl]; exact hv, r⟩
  refine ⟨rs.sub, ?_, fun j x h => ?_, fun j x h => ?_, fun j k x y p h1 h2 h3 h4 => ?_, fun j x h => ?_⟩
  · unfold sl st
    rw [List.length_map, List.length_map, List.length_append, List.length_append, List.length_map, hl, hd.length]
  · rw [gt_sl] at h
    rcases at_ j _ h with ⟨z, v, e1, hv, r⟩ | ⟨i, _, hg, v, hv, hs⟩
    · cases e1
      exact ⟨v, st_get.mpr hv, r⟩
    · obtain ⟨w, e2, r⟩ := rs.dat i x hg
      rw [hs] at e2
      cases e2
      exact ⟨v, st_get.mpr hv, r⟩
  · rw [gt_sl] at h
    rcases at_ j _ h with ⟨z, v, e1, hv, r⟩ | ⟨i, _, hg, v, hv, hs⟩
    · cases e1
    · obtain ⟨p, e2, r⟩ := rs.own i x hg
      rw [hs] at e2
      cases e2
      exact ⟨p, st_get.mpr hv, r⟩
  · rw [gt_sl] at h1 h2
    rcases at_ j _ h1 with ⟨z, v, e1, hv, r⟩ | ⟨i, a1, hg, v, hv, hs⟩
    · cases e1
    · rcases at_ k _ h2 with ⟨z, v2, e1, hv2, r⟩ | ⟨i2, a2, hg2, v2, hv2, hs2⟩
      · cases e1
      · have e1 := st_get.mp h3
        have e2 := st_get.mp h4
        rw [hv] at e1
        rw [hv2] at e2
        cases e1
        cases e2
        have := rs.inj i i2 x y p hg hg2 hs hs2
        subst this
        exact nodup_slots nd a1 a2
  · rw [gt_sl] at h
    rcases at_ j _ h with ⟨z, v, e1, hv, r⟩ | ⟨i, _, hg, v, hv, hs⟩
    · cases e1
    · obtain ⟨a, e2, r⟩ := rs.exc i x hg
      rw [hs] at e2
      cases e2
      exact ⟨a, st_get.mpr hv, r⟩
/-- back in the caller's world -/
theorem RS.back {as : List R} {vs dvs : List V} {ss outs : List S} {ds : List D} {F' H' : Hp} (rs : RS K σ ρ F H) (ro : ROs K σ F as vs) (e : toS ρ as = some ss) (nd : (slots as).Nodup)
    (rc : RS K (st (vs ++ dvs)) (sl (ss ++ ds.map .d)) F H) (rs' : RS K (st (vs ++ dvs)) (sl outs) F' H') (g : Gr (st (vs ++ dvs)) (sl (ss ++ ds.map .d)) F H (st (vs ++ dvs)) (sl outs) F' H') :
    RS K σ (wb ρ as outs) F' H' ∧ Gr σ ρ F H σ (wb ρ as outs) F' H' ∧ ∀ p, Ow (wb ρ as outs) σ p → Ow ρ σ p ∨ Ow (sl outs) (st (vs ++ dvs)) p := by
  have hl : ss.length = vs.length := (toS_len e).trans ro.length
  have ho : outs.length = (vs ++ dvs).length := by
    have := rs'.len
    unfold sl st at this
    rwa [List.length_map, List.length_map] at this
  -- a slot that was lent
  have lent : ∀ i ∈ slots as, ∃ (j : Nat) (v : V) (o : S), as[j]? = some (.s i) ∧ (vs ++ dvs)[j]? = some v ∧ σ[i]? = some (some v) ∧ outs[j]? = some o ∧ gt (wb ρ as outs) i = some o := by
    intro i hi
    obtain ⟨j, ha⟩ := mem_slots hi
    obtain ⟨v, hv, r⟩ := ro.get ha
    have hj : j < vs.length := (List.getElem?_eq_some_iff.mp hv).1
    have hjo : j < outs.length := by
      rw [ho, List.length_append]
      omega
    have hσ : σ[i]? = some (some v) := r
    have hi2 : i < ρ.length := by
      rw [rs.len]
      exact (List.getElem?_eq_some_iff.mp hσ).1
    exact ⟨j, v, outs[j], ha, by rw [List.getElem?_append_left hj]; exact hv, hσ, List.getElem?_eq_getElem hjo, wb_at nd ha (List.getElem?_eq_getElem hjo) hi2⟩
  -- who is own in the callee is own here
  have ow1 : ∀ p, Ow (sl (ss ++ ds.map .d)) (st (vs ++ dvs)) p → ∃ i x, i ∈ slots as ∧ gt ρ i = some (.o x) ∧ σ[i]? = some (some (.ref p)) := by
    rintro p ⟨j, x, h1, h2⟩
    rw [gt_sl] at h1
    have h2 := st_get.mp h2
    by_cases q : j < ss.length
    · rw [List.getElem?_append_left q] at h1
      obtain ⟨a, ha, h⟩ := toS_get e h1
      obtain ⟨v, hv, r⟩ := ro.get ha
      rw [List.getElem?_append_left (by omega), hv] at h2
      cases h2
      rcases h with ⟨z, rfl, h⟩ | ⟨i, rfl, h⟩
      · cases h
      · refine ⟨i, x, ?_, h, r⟩
        exact slots_mem ha
    · rw [List.getElem?_append_right (by omega), List.getElem?_map] at h1
      cases g : ds[j - ss.length]? with
      | none => rw [g] at h1; cases h1
      | some x => rw [g] at h1; cases h1
  have nOw : ∀ a, ¬ Ow ρ σ a → ¬ Ow (sl (ss ++ ds.map .d)) (st (vs ++ dvs)) a := fun a n h => by
    obtain ⟨i, x, _, h1, h2⟩ := ow1 a h
    exact n ⟨i, x, h1, h2⟩
  -- an own slot that was not lent
  have rest : ∀ (i : Nat) (x : D) (p : Addr), i ∉ slots as → gt ρ i = some (.o x) → σ[i]? = some (some (.ref p)) → ¬ Ow (sl (ss ++ ds.map .d)) (st (vs ++ dvs)) p := fun i x p hi h1 h2 h => by
    obtain ⟨k, y, hk, h3, h4⟩ := ow1 p h
    have := rs.inj i k x y p h1 h3 h2 h4
    subst this
    exact hi hk
  have own' : ∀ (i : Nat) (x : D), gt (wb ρ as outs) i = some (.o x) → ∃ p, σ[i]? = some (some (.ref p)) ∧ F' p = none ∧ OwnAt K F' H' p x ∧ ((i ∉ slots as ∧ gt ρ i = some (.o x)) ∨ ∃ j, as[j]? = some (.s i) ∧ gt (sl outs) j = some (.o x) ∧ (st (vs ++ dvs))[j]? = some (some (.ref p))) := by
    intro i x h
    by_cases q : i ∈ slots as
    · obtain ⟨j, v, o, ha, hv, hσ, hoj, hw⟩ := lent i q
      rw [hw] at h
      cases h
      have h1 : gt (sl outs) j = some (.o x) := by rw [gt_sl]; exact hoj
      obtain ⟨p, e1, e2, e3⟩ := rs'.own j x h1
      have e1' := st_get.mp e1
      rw [hv] at e1'
      cases e1'
      exact ⟨p, hσ, e2, e3, .inr ⟨j, ha, h1, e1⟩⟩
    · rw [wb_out q] at h
      obtain ⟨p, e1, e2, o, e3, e4⟩ := rs.own i x h
      have n := rest i x p q h e1
      have hp : H p ≠ none := by rw [e3]; simp
      exact ⟨p, e1, g.nofz p hp n e2, ⟨o, by rw [g.keep p hp n]; exact e3, e4.sub g.mono⟩, .inl ⟨q, h⟩⟩
  refine ⟨⟨rs'.sub, by rw [wb_len]; exact rs.len, fun i x h => ?_, fun i x h => ?_, fun i k x y p h1 h2 h3 h4 => ?_, fun i x h => ?_⟩, ⟨fun a h n => g.keep a h (nOw a n), g.live, g.mono, fun a h n => g.nofz a h (nOw a n), fun p h => ?_⟩, fun p h => ?_⟩
  · by_cases q : i ∈ slots as
    · obtain ⟨j, v, o, ha, hv, hσ, hoj, hw⟩ := lent i q
      rw [hw] at h
      cases h
      obtain ⟨w, e1, r⟩ := rs'.dat j x (by rw [gt_sl]; exact hoj)
      have e1' := st_get.mp e1
      rw [hv] at e1'
      cases e1'
      exact ⟨v, hσ, r⟩
    · rw [wb_out q] at h
      obtain ⟨w, e1, r⟩ := rs.dat i x h
      exact ⟨w, e1, r.sub g.mono⟩
  · obtain ⟨p, e1, e2, e3, _⟩ := own' i x h
    exact ⟨p, e1, e2, e3⟩
  · obtain ⟨p1, a1, _, _, c1⟩ := own' i x h1
    obtain ⟨p2, a2, _, _, c2⟩ := own' k y h2
    rw [h3] at a1
    rw [h4] at a2
    cases a1
    cases a2
    have mixed : ∀ {i k : Nat} {x y : D}, (i ∉ slots as ∧ gt ρ i = some (.o x)) → σ[i]? = some (some (.ref p)) → (∃ j, as[j]? = some (.s k) ∧ gt (sl outs) j = some (.o y) ∧ (st (vs ++ dvs))[j]? = some (some (.ref p))) → False := by
      rintro i k x y ⟨hi, hg⟩ hσ ⟨j, ha, h5, h6⟩
      have hO : Ow (sl outs) (st (vs ++ dvs)) p := ⟨j, y, h5, h6⟩
      rcases g.sub p hO with z | z
      · exact rest i x p hi hg hσ z
      · exact (rs.ow_some ⟨i, x, hg, hσ⟩).1 z
    rcases c1 with c1 | c1
    · rcases c2 with c2 | c2
      · exact rs.inj i k x y p c1.2 c2.2 h3 h4
      · exact (mixed c1 h3 c2).elim
    · rcases c2 with c2 | c2
      · exact (mixed c2 h4 c1).elim
      · obtain ⟨j1, b1, b2, b3⟩ := c1
        obtain ⟨j2, d1, d2, d3⟩ := c2
        have := rs'.inj j1 j2 x y p b2 d2 b3 d3
        subst this
        rw [b1] at d1
        cases d1
        rfl
  · by_cases q : i ∈ slots as
    · obtain ⟨j, v, o, ha, hv, hσ, hoj, hw⟩ := lent i q
      rw [hw] at h
      cases h
      obtain ⟨a, e1, r⟩ := rs'.exc j x (by rw [gt_sl]; exact hoj)
      have e1' := st_get.mp e1
      rw [hv] at e1'
      cases e1'
      exact ⟨a, hσ, r⟩
    · rw [wb_out q] at h
      obtain ⟨a, e1, r⟩ := rs.exc i x h
      exact ⟨a, e1, K.j.mono _ _ _ _ g.mono r⟩
  · obtain ⟨i, x, h1, h2⟩ := h
    obtain ⟨q, e1, _, _, c⟩ := own' i x h1
    rw [h2] at e1
    cases e1
    rcases c with c | ⟨j, ha, h3, h4⟩
    · exact .inl ⟨i, x, c.2, h2⟩
    · rcases g.sub p ⟨j, x, h3, h4⟩ with z | z
      · obtain ⟨k, y, _, z1, z2⟩ := ow1 p z
        exact .inl ⟨k, y, z1, z2⟩
      · exact .inr z
  · obtain ⟨i, x, h1, h2⟩ := h
    obtain ⟨q, e1, _, _, c⟩ := own' i x h1
    rw [h2] at e1
    cases e1
    rcases c with c | ⟨j, ha, h3, h4⟩
    · exact .inl ⟨i, x, c.2, h2⟩
    · exact .inr ⟨j, x, h3, h4⟩
theorem LE.call {n : Nat} {fd : FD} {fs : List DE} {ds : List D} {dvs : List V} {Q : VK} (hd : ∀ F, Reps K F ds dvs) (hn : fs.length + ds.length = n)
    (h : LE K mg W (dCall fd fs ds) σ H Q) : tCallSD (spD K mg n fd) dvs (WE W) (LA K mg W fs) σ H Q := by
  obtain ⟨ρ, F, r, ρ', rs, e, q⟩ := h
  have hl : ∀ as ρ1, eA fs ρ = some (.ok as, ρ1) → as.length = fs.length := fun as ρ1 e => eA_len e
  unfold dCall bE at e
  cases ef : eA fs ρ with
  | none => rw [ef] at e; cases e
  | some z =>
    obtain ⟨ra, ρ1⟩ := z
    rw [ef] at e
    cases ra with
    | error x =>
      cases e
      exact ⟨ρ, F, .error x, _, rs, ef, q⟩
    | ok as =>
      refine ⟨ρ, F, .ok as, ρ1, rs, ef, fun vs F1 H1 rs1 g1 ro => ?_⟩
      dsimp only at e
      cases es : toS ρ1 as with
      | none => rw [es] at e; cases e
      | some ss =>
        rw [es] at e
        obtain ⟨outs, eo, ns, nd, rfl⟩ := cEnd_some e
        have rc := RS.call rs1 ro es nd (hd F1)
        refine ⟨ss ++ ds.map .d, F1, r, outs, rc, ?_, eo, fun F' H' rs' g' => ?_⟩
        · rw [List.length_append, List.length_map, toS_len es, hl as ρ1 ef]
          exact hn
        · obtain ⟨b1, b2, b3⟩ := RS.back rs1 ro es nd rc rs' g'
          cases r with
          | error x => exact fun cls d xr => q cls d F' H' b1 (g1.trans b2) xr
          | ok a =>
            refine fun v rr => q v F' H' b1 (g1.trans b2) (RR.weak g1.live ?_)
            cases a with
            | d x => exact rr
            | s i => cases ns
            | o x =>
              obtain ⟨p, rfl, hp, ho, hf, ow⟩ := rr
              exact ⟨p, rfl, hp, fun z => (b3 p z).elim (fun z => (rs1.ow_some z).1 hp) ho, hf, ow⟩
end
end Dn
end

section
set_option Elab.async false
set_option linter.all false
set_option maxRecDepth 100000
set_option maxHeartbeats 2000000
/-! Dn: statements, loops, a def's body. -/
namespace Dn
open PySem PySem.Spec L2
section
variable {K : Fg} {mg : MG} {W : WX} {pr : Nat → Bool} {σ σ1 σ' : L2.St} {ρ ρ1 ρ' : Env} {F F1 F' H H1 H' H0 : Hp} {v u : V} {f fa fb : DE} {x y : D} {g g1 g2 : DS} {c : Ctl} {D0 : Ends}
/-- the end c, in the world behind; H0 the heap ahead -/
def CE' (K : Fg) (mg : MG) (W : WX) (H0 : Hp) (σ' : L2.St) (ρ' : Env) (F' H' : Hp) (D0 : Ends) : Ctl → Prop
  | .nx => D0.nx σ' H'
  | .bk => D0.bk σ' H'
  | .ct => D0.ct σ' H'
  | .rt r => ∀ v, RR K σ' ρ' F' H' H0 r v → D0.rt v H'
  | .ex x => ∀ cls d, XR K mg F' x cls d → W cls d σ' H'
def ES (K : Fg) (mg : MG) (W : WX) (pr : Nat → Bool) (σ : L2.St) (ρ : Env) (F H : Hp) (c : Ctl) (ρ' : Env) (D0 : Ends) : Prop :=
  ∀ σ' F' H', RS K σ' ρ' F' H' → Gr σ ρ F H σ' ρ' F' H' → (∀ j : Nat, pr j = true → σ'[j]? = σ[j]?) → CE' K mg W H σ' ρ' F' H' D0 c
/-- a statement's reading by its function; pr: the slots that it leaves -/
def LS (K : Fg) (mg : MG) (W : WX) (pr : Nat → Bool) (g : DS) : TS := fun D0 σ H => ∃ ρ F c ρ', RS K σ ρ F H ∧ g ρ = some (c, ρ') ∧ ES K mg W pr σ ρ F H c ρ' D0
theorem CE'.weak {a : Ctl} (l : ∀ a, H0 a ≠ none → H1 a ≠ none) (h : CE' K mg W H0 σ' ρ' F' H' D0 a) : CE' K mg W H1 σ' ρ' F' H' D0 a := by
  cases a with
  | rt r => exact fun v rr => h v (RR.weak l rr)
  | _ => exact h
theorem ES.shift (e : ES K mg W pr σ ρ F H c ρ' D0) (gr : Gr σ ρ F H σ1 ρ1 F1 H1) (p : ∀ j : Nat, pr j = true → σ1[j]? = σ[j]?) : ES K mg W pr σ1 ρ1 F1 H1 c ρ' D0 := fun σ' F' H' rs' g' p' =>
  CE'.weak gr.live (e σ' F' H' rs' (gr.trans g') fun j hj => (p' j hj).trans (p j hj))

def sSkip : DS := fun ρ => some (.nx, ρ)
def sBrk : DS := fun ρ => some (.bk, ρ)
def sCnt : DS := fun ρ => some (.ct, ρ)
def sSeq (g1 g2 : DS) : DS := fun ρ => match g1 ρ with
  | some (.nx, ρ1) => g2 ρ1
  | o => o
theorem LS.skip {D0 : Ends} {σ : L2.St} {H : Hp} (h : LS K mg W pr sSkip D0 σ H) : D0.nx σ H := by
  obtain ⟨ρ, F, c, ρ', rs, e, q⟩ := h
  cases e
  exact q σ F H rs Gr.refl fun _ _ => rfl
theorem LS.brk {D0 : Ends} {σ : L2.St} {H : Hp} (h : LS K mg W pr sBrk D0 σ H) : D0.bk σ H := by
  obtain ⟨ρ, F, c, ρ', rs, e, q⟩ := h
  cases e
  exact q σ F H rs Gr.refl fun _ _ => rfl
theorem LS.cnt {D0 : Ends} {σ : L2.St} {H : Hp} (h : LS K mg W pr sCnt D0 σ H) : D0.ct σ H := by
  obtain ⟨ρ, F, c, ρ', rs, e, q⟩ := h
  cases e
  exact q σ F H rs Gr.refl fun _ _ => rfl
theorem LS.seq {D0 : Ends} {σ : L2.St} {H : Hp} (h : LS K mg W pr (sSeq g1 g2) D0 σ H) : tSeq (LS K mg W pr g1) (LS K mg W pr g2) D0 σ H := by
  obtain ⟨ρ, F, c, ρ', rs, e, q⟩ := h
  unfold sSeq at e
  cases e1 : g1 ρ with
  | none => rw [e1] at e; cases e
  | some z =>
    obtain ⟨c1, ρ1⟩ := z
    rw [e1] at e
    refine ⟨ρ, F, c1, ρ1, rs, e1, ?_⟩
    cases c1 with
    | nx => exact fun σ1 F1 H1 rs1 g1 p1 => ⟨ρ1, F1, c, ρ', rs1, e, q.shift g1 p1⟩
    | bk => cases e; exact q
    | ct => cases e; exact q
    | rt r => cases e; exact q
    | ex x => cases e; exact q
section
variable {X : Cx} {s : Stmt} {ss : List Stmt} {pos : Pos}
theorem pss_consD (h1 : PS X s (LS (kj J X) X.mg W pr g1)) (h2 : PSs X ss (LS (kj J X) X.mg W pr g2)) : PSs X (s :: ss) (LS (kj J X) X.mg W pr (sSeq g1 g2)) := PSs.imp (pss_cons h1 h2) fun _ _ _ h => LS.seq h
theorem pss_nilD : PSs X [] (LS (kj J X) X.mg W pr sSkip) := PSs.imp pss_nil fun _ _ _ h => LS.skip h
theorem ps_passD : PS X (.Pass pos) (LS (kj J X) X.mg W pr sSkip) := PS.imp ps_pass fun _ _ _ h => LS.skip h
theorem ps_brkD : PS X (.Break pos) (LS (kj J X) X.mg W pr sBrk) := PS.imp ps_break fun _ _ _ h => LS.brk h
theorem ps_cntD : PS X (.Continue pos) (LS (kj J X) X.mg W pr sCnt) := PS.imp ps_continue fun _ _ _ h => LS.cnt h
end

/-! ### from expressions to statements -/
def bS {α : Type} (f : Dx α) (k : α → DS) : DS := fun ρ => match f ρ with
  | none => none
  | some (.error x, ρ1) => some (.ex x, ρ1)
  | some (.ok a, ρ1) => k a ρ1
theorem LE.bindS {k : R → DS} {G : VK} (rs : RS K σ ρ F H) (e : bS fa k ρ = some (c, ρ')) (q : ES K mg W pr σ ρ F H c ρ' D0)
    (hok : ∀ a v ρ1 F1 H1, RS K σ ρ1 F1 H1 → Gr σ ρ F H σ ρ1 F1 H1 → RR K σ ρ1 F1 H1 H a v → k a ρ1 = some (c, ρ') → G v H1) : LE K mg W fa σ H G := by
  unfold bS at e
  cases z : fa ρ with
  | none => rw [z] at e; cases e
  | some z1 =>
    obtain ⟨ra, ρ1⟩ := z1
    rw [z] at e
    cases ra with
    | error x =>
      cases e
      exact ⟨ρ, F, .error x, _, rs, z, fun cls d F' H' rs' g' xr => q σ F' H' rs' g' (fun _ _ => rfl) cls d xr⟩
    | ok a => exact ⟨ρ, F, .ok a, ρ1, rs, z, fun v F' H' rs' g' rr => hok a v ρ1 F' H' rs' g' rr e⟩
theorem LT.bindS {t : Dx Bool} {k : Bool → DS} {G : Bool → Hp → Prop} (rs : RS K σ ρ F H) (e : bS t k ρ = some (c, ρ')) (q : ES K mg W pr σ ρ F H c ρ' D0)
    (hok : ∀ b ρ1 F1 H1, RS K σ ρ1 F1 H1 → Gr σ ρ F H σ ρ1 F1 H1 → k b ρ1 = some (c, ρ') → G b H1) : LT K mg W t σ H G := by
  unfold bS at e
  cases z : t ρ with
  | none => rw [z] at e; cases e
  | some z1 =>
    obtain ⟨ra, ρ1⟩ := z1
    rw [z] at e
    cases ra with
    | error x =>
      cases e
      exact ⟨ρ, F, .error x, _, rs, z, fun cls d F' H' rs' g' xr => q σ F' H' rs' g' (fun _ _ => rfl) cls d xr⟩
    | ok a => exact ⟨ρ, F, .ok a, ρ1, rs, z, fun F' H' rs' g' => hok a ρ1 F' H' rs' g' e⟩

/-- slot i gets data -/
theorem setD {i : Nat} (rs : RS K σ ρ F H) (hi : i < ρ.length) (r : Rep K F x v) : RS K (σ.set i (some v)) (ρ.set i (some (.d x))) F H ∧ Gr σ ρ F H (σ.set i (some v)) (ρ.set i (some (.d x))) F H := by
  have hi2 : i < σ.length := by rw [← rs.len]; exact hi
  have old : ∀ (j : Nat) (y : D), gt (ρ.set i (some (.d x))) j = some (.o y) → j ≠ i ∧ gt ρ j = some (.o y) := fun j y h => by
    by_cases q : j = i
    · subst q
      rw [gt_same hi] at h
      cases h
    · rw [gt_ne q] at h
      exact ⟨q, h⟩
  have so : ∀ (j : Nat), j ≠ i → (σ.set i (some v))[j]? = σ[j]? := fun j q => List.getElem?_set_ne (Ne.symm q)
  refine ⟨⟨rs.sub, by rw [List.length_set, List.length_set]; exact rs.len, fun j y h => ?_, fun j y h => ?_, fun j k y z p h1 h2 h3 h4 => ?_, fun j e h => ?_⟩, ⟨fun _ _ _ => rfl, fun _ h => h, Sub.refl, fun _ _ _ h => h, fun p h => ?_⟩⟩
  · by_cases q : j = i
    · subst q
      rw [gt_same hi] at h
      cases h
      exact ⟨v, by rw [List.getElem?_set_self hi2], r⟩
    · rw [gt_ne q] at h
      rw [so j q]
      exact rs.dat j y h
  · obtain ⟨q, h⟩ := old j y h
    rw [so j q]
    exact rs.own j y h
  · obtain ⟨q1, h1⟩ := old j y h1
    obtain ⟨q2, h2⟩ := old k z h2
    rw [so j q1] at h3
    rw [so k q2] at h4
    exact rs.inj j k y z p h1 h2 h3 h4
  · by_cases q : j = i
    · subst q
      rw [gt_same hi] at h
      cases h
    · rw [gt_ne q] at h
      rw [so j q]
      exact rs.exc j e h
  · obtain ⟨j, y, h1, h2⟩ := h
    obtain ⟨q, h1⟩ := old j y h1
    rw [so j q] at h2
    exact .inl ⟨j, y, h1, h2⟩
/-- slot i gets a new own thing -/
theorem setO {i : Nat} (rs : RS K σ ρ F H) (hi : i < ρ.length) (hn : ∀ p, v = .ref p → H0 p = none) (r : RR K σ ρ F H H0 (.o x) v) :
    RS K (σ.set i (some v)) (ρ.set i (some (.o x))) F H ∧ ∀ p, Ow (ρ.set i (some (.o x))) (σ.set i (some v)) p → Ow ρ σ p ∨ H0 p = none := by
  obtain ⟨p, rfl, h0, no, hf, ow⟩ := r
  have hi2 : i < σ.length := by rw [← rs.len]; exact hi
  have so : ∀ (j : Nat), j ≠ i → (σ.set i (some (V.ref p)))[j]? = σ[j]? := fun j q => List.getElem?_set_ne (Ne.symm q)
  have old : ∀ (j : Nat) (y : D), gt (ρ.set i (some (.o x))) j = some (.o y) → (j = i ∧ y = x) ∨ (j ≠ i ∧ gt ρ j = some (.o y)) := fun j y h => by
    by_cases q : j = i
    · subst q
      rw [gt_same hi] at h
      cases h
      exact .inl ⟨rfl, rfl⟩
    · rw [gt_ne q] at h
      exact .inr ⟨q, h⟩
  refine ⟨⟨rs.sub, by rw [List.length_set, List.length_set]; exact rs.len, fun j y h => ?_, fun j y h => ?_, fun j k y z q h1 h2 h3 h4 => ?_, fun j e h => ?_⟩, fun q h => ?_⟩
  · by_cases q : j = i
    · subst q
      rw [gt_same hi] at h
      cases h
    · rw [gt_ne q] at h
      rw [so j q]
      exact rs.dat j y h
  · rcases old j y h with ⟨rfl, rfl⟩ | ⟨q, h⟩
    · exact ⟨p, by rw [List.getElem?_set_self hi2], hf, ow⟩
    · rw [so j q]
      exact rs.own j y h
  · rcases old j y h1 with ⟨e1, e2⟩ | ⟨q1, n1⟩
    · rcases old k z h2 with ⟨e3, e4⟩ | ⟨q2, n2⟩
      · rw [e1, e3]
      · subst e1
        rw [List.getElem?_set_self hi2] at h3
        cases h3
        rw [so k q2] at h4
        exact (no ⟨k, z, n2, h4⟩).elim
    · rcases old k z h2 with ⟨e3, e4⟩ | ⟨q2, n2⟩
      · subst e3
        rw [List.getElem?_set_self hi2] at h4
        cases h4
        rw [so j q1] at h3
        exact (no ⟨j, y, n1, h3⟩).elim
      · rw [so j q1] at h3
        rw [so k q2] at h4
        exact rs.inj j k y z q n1 n2 h3 h4
  · by_cases q : j = i
    · subst q
      rw [gt_same hi] at h
      cases h
    · rw [gt_ne q] at h
      rw [so j q]
      exact rs.exc j e h
  · obtain ⟨j, y, h1, h2⟩ := h
    rcases old j y h1 with ⟨e1, e2⟩ | ⟨q1, h1⟩
    · subst e1
      rw [List.getElem?_set_self hi2] at h2
      cases h2
      exact .inr h0
    · rw [so j q1] at h2
      exact .inl ⟨j, y, h1, h2⟩
/-- x = e -/
def setR (i : Nat) (a : R) : DS := fun ρ => match a with
  | .d x => if i < ρ.length then some (.nx, ρ.set i (some (.d x))) else none
  | .o x => if i < ρ.length then some (.nx, ρ.set i (some (.o x))) else none
  | .s j => match frzS ρ j with
    | some (x, ρ1) => if i < ρ1.length then some (.nx, ρ1.set i (some (.d x))) else none
    | none => none
theorem setR_ok {i : Nat} {a : R} (hp : pr i = false) (rs1 : RS K σ ρ1 F1 H1) (gr : Gr σ ρ F H σ ρ1 F1 H1) (rr : RR K σ ρ1 F1 H1 H a v) (e : setR i a ρ1 = some (c, ρ')) (q : ES K mg W pr σ ρ F H c ρ' D0) : D0.nx (σ.set i (some v)) H1 := by
  have pp : ∀ j : Nat, pr j = true → (σ.set i (some v))[j]? = σ[j]? := fun j hj => List.getElem?_set_ne (fun z => by subst z; rw [hp] at hj; cases hj)
  unfold setR at e
  cases a with
  | d x =>
    dsimp only at e
    split at e
    · rename_i hi
      cases e
      obtain ⟨a, b⟩ := setD rs1 hi rr
      exact q _ _ _ a (gr.trans b) pp
    · cases e
  | o x =>
    dsimp only at e
    split at e
    · rename_i hi
      cases e
      obtain ⟨a, b⟩ := setO rs1 hi (fun p z => by obtain ⟨p', e1, e2, _⟩ := rr; rw [e1] at z; cases z; exact e2) rr
      exact q _ _ _ a ⟨gr.keep, gr.live, gr.mono, gr.nofz, fun p h => (b p h).elim (gr.sub p) .inr⟩ pp
    · cases e
  | s j =>
    dsimp only at e
    cases z : frzS ρ1 j with
    | none => rw [z] at e; cases e
    | some w =>
      obtain ⟨x, ρ2⟩ := w
      rw [z] at e
      dsimp only at e
      split at e
      · rename_i hi
        cases e
        obtain ⟨F2, rs2, g2, rp⟩ := frzS_ok rs1 rr.1 z
        obtain ⟨a, b⟩ := setD rs2 hi rp
        exact q _ _ _ a (gr.trans (g2.trans b)) pp
      · cases e
def sSet (i : Nat) (f : DE) : DS := bS f (setR i)
theorem LS.set {i : Nat} (hp : pr i = false) {D0 : Ends} {σ : L2.St} {H : Hp} (h : LS K mg W pr (sSet i f) D0 σ H) : tAsg (LE K mg W f) (gName i) D0 σ H := by
  obtain ⟨ρ, F, c, ρ', rs, e, q⟩ := h
  exact LE.bindS rs e q fun a v ρ1 F1 H1 rs1 g1 rr e1 => setR_ok hp rs1 g1 rr e1 q
/-- return e -/
def retR (a : R) : DS := fun ρ => match a with
  | .d x => some (.rt (.d x), ρ)
  | .o x => some (.rt (.o x), ρ)
  | .s j => match frzS ρ j with
    | some (x, ρ1) => some (.rt (.d x), ρ1)
    | none => none
def sRet (f : DE) : DS := bS f retR
theorem LS.ret {D0 : Ends} {σ : L2.St} {H : Hp} (h : LS K mg W pr (sRet f) D0 σ H) : tRet (LE K mg W f) D0 σ H := by
  obtain ⟨ρ, F, c, ρ', rs, e, q⟩ := h
  refine LE.bindS rs e q fun a v ρ1 F1 H1 rs1 g1 rr e1 => ?_
  unfold retR at e1
  cases a with
  | d x =>
    cases e1
    exact q σ F1 H1 rs1 g1 (fun _ _ => rfl) v rr
  | o x =>
    cases e1
    exact q σ F1 H1 rs1 g1 (fun _ _ => rfl) v rr
  | s j =>
    dsimp only at e1
    cases z : frzS ρ1 j with
    | none => rw [z] at e1; cases e1
    | some w =>
      obtain ⟨x, ρ2⟩ := w
      rw [z] at e1
      cases e1
      obtain ⟨F2, rs2, g2, rp⟩ := frzS_ok rs1 rr.1 z
      exact q σ F2 H1 rs2 (g1.trans g2) (fun _ _ => rfl) v rp
def sRetN : DS := fun ρ => some (.rt (.d .non), ρ)
theorem LS.retN {D0 : Ends} {σ : L2.St} {H : Hp} (h : LS K mg W pr sRetN D0 σ H) : tRetN D0 σ H := by
  obtain ⟨ρ, F, c, ρ', rs, e, q⟩ := h
  cases e
  exact q σ F H rs Gr.refl (fun _ _ => rfl) .non .non
/-- e, its value dropped -/
def sExp (f : DE) : DS := bS f fun _ ρ => some (.nx, ρ)
theorem LS.exp {D0 : Ends} {σ : L2.St} {H : Hp} (h : LS K mg W pr (sExp f) D0 σ H) : tDrop (LE K mg W f) D0 σ H := by
  obtain ⟨ρ, F, c, ρ', rs, e, q⟩ := h
  refine LE.bindS rs e q fun a v ρ1 F1 H1 rs1 g1 rr e1 => ?_
  cases e1
  exact q σ F1 H1 rs1 g1 fun _ _ => rfl
def sIf (t : Dx Bool) (g1 g2 : DS) : DS := bS t fun b => if b then g1 else g2
theorem LS.ifs {t : Dx Bool} {D0 : Ends} {σ : L2.St} {H : Hp} (h : LS K mg W pr (sIf t g1 g2) D0 σ H) : tIfS (LT K mg W t) (LS K mg W pr g1) (LS K mg W pr g2) D0 σ H := by
  obtain ⟨ρ, F, c, ρ', rs, e, q⟩ := h
  refine LT.bindS rs e q fun b ρ1 F1 H1 rs1 gr e1 => ?_
  cases b with
  | true => exact ⟨ρ1, F1, c, ρ', rs1, e1, q.shift gr fun _ _ => rfl⟩
  | false => exact ⟨ρ1, F1, c, ρ', rs1, e1, q.shift gr fun _ _ => rfl⟩
section
variable {X : Cx} {pos p' : Pos} {e : Expr} {i : Nat} {n : Str} {a b : List Stmt} {tst : Expr} {t : Dx Bool}
theorem ps_setD (hp : pr i = false) (hN : X.N.Nodup) (hi : X.N[i]? = some n) (hx : Loc X.env.scope n) (he : PE X e (LE (kj J X) X.mg W f)) (hs : swapsWith e (some (.Name n p')) pos.line X.env = pure false := by rfl)
    (hf : X.fn n = true ∨ X.env.scope.names.lookup n = some .local := by first | exact .inl rfl | exact .inr rfl | assumption) : PS X (.Assign [.Name n p'] e pos) (LS (kj J X) X.mg W pr (sSet i f)) := PS.imp (ps_set hN hi hx he hs hf) fun _ _ _ h => LS.set hp h
theorem ps_retD (he : PE X e (LE (kj J X) X.mg W f)) : PS X (.Return (some e) pos) (LS (kj J X) X.mg W pr (sRet f)) := PS.imp (ps_ret he) fun _ _ _ h => LS.ret h
theorem ps_retND : PS X (.Return none pos) (LS (kj J X) X.mg W pr sRetN) := PS.imp ps_retN fun _ _ _ h => LS.retN h
theorem ps_expD (he : PE X e (LE (kj J X) X.mg W f)) (hs : swapsWith e none pos.line X.env = pure false := by rfl) : PS X (.Expr e pos) (LS (kj J X) X.mg W pr (sExp f)) := PS.imp (ps_expr he hs) fun _ _ _ h => LS.exp h
theorem ps_ifD (ht : PT X tst (LT (kj J X) X.mg W t)) (ha : PSs X a (LS (kj J X) X.mg W pr g1)) (hb : PSs X b (LS (kj J X) X.mg W pr g2)) : PS X (.If tst a b pos) (LS (kj J X) X.mg W pr (sIf t g1 g2)) := PS.imp (ps_if ht ha hb) fun _ _ _ h => LS.ifs h
end

/-! ### while -/
def whN (t : Dx Bool) (g : DS) : Nat → DS
  | 0, _ => none
  | n + 1, ρ => match t ρ with
    | none => none
    | some (.error x, ρ1) => some (.ex x, ρ1)
    | some (.ok false, ρ1) => some (.nx, ρ1)
    | some (.ok true, ρ1) => match g ρ1 with
      | none => none
      | some (.nx, ρ2) => whN t g n ρ2
      | some (.ct, ρ2) => whN t g n ρ2
      | some (.bk, ρ2) => some (.nx, ρ2)
      | some (.rt r, ρ2) => some (.rt r, ρ2)
      | some (.ex x, ρ2) => some (.ex x, ρ2)
theorem LS.whl {t : Dx Bool} {n : Nat} {D0 : Ends} {σ : L2.St} {H : Hp} (h : LS K mg W pr (whN t g n) D0 σ H) : tWhile (LT K mg W t) (LS K mg W pr g) D0 σ H := by
  obtain ⟨ρ, F, c, ρ', rs, e, q⟩ := h
  refine ⟨fun m σ1 H1 => ∃ ρ1 F1, RS K σ1 ρ1 F1 H1 ∧ Gr σ ρ F H σ1 ρ1 F1 H1 ∧ (∀ j : Nat, pr j = true → σ1[j]? = σ[j]?) ∧ whN t g m ρ1 = some (c, ρ'), ⟨n, ρ, F, rs, Gr.refl, fun _ _ => rfl, e⟩, ?_⟩
  rintro m σ1 H1 ⟨ρ1, F1, rs1, gr, p1, e1⟩
  cases m with
  | zero => cases e1
  | succ m =>
    have q1 := q.shift gr p1
    unfold whN at e1
    cases z : t ρ1 with
    | none => rw [z] at e1; cases e1
    | some w =>
      obtain ⟨rt, ρ2⟩ := w
      rw [z] at e1
      cases rt with
      | error x =>
        cases e1
        exact ⟨ρ1, F1, .error x, _, rs1, z, fun cls d F' H' rs' g' xr => q1 σ1 F' H' rs' g' (fun _ _ => rfl) cls d xr⟩
      | ok b =>
        refine ⟨ρ1, F1, .ok b, ρ2, rs1, z, fun F2 H2 rs2 g2 => ?_⟩
        cases b with
        | false =>
          cases e1
          rw [if_neg (by decide)]
          exact q1 σ1 F2 H2 rs2 g2 fun _ _ => rfl
        | true =>
          rw [if_pos rfl]
          dsimp only at e1
          have q2 := q1.shift g2 fun _ _ => rfl
          refine ⟨fun σ3 H3 => ∃ ρ3 F3, RS K σ3 ρ3 F3 H3 ∧ Gr σ ρ F H σ3 ρ3 F3 H3 ∧ (∀ j : Nat, pr j = true → σ3[j]? = σ[j]?) ∧ whN t g m ρ3 = some (c, ρ'), fun σ3 H3 ⟨ρ3, F3, w⟩ => ⟨m, Nat.lt_succ_self m, ρ3, F3, w⟩, ?_⟩
          cases y : g ρ2 with
          | none => rw [y] at e1; cases e1
          | some w =>
            obtain ⟨c2, ρ3⟩ := w
            rw [y] at e1
            refine ⟨ρ2, F2, c2, ρ3, rs2, y, ?_⟩
            cases c2 with
            | nx => exact fun σ3 F3 H3 rs3 g3 p3 => ⟨ρ3, F3, rs3, gr.trans (g2.trans g3), fun j hj => (p3 j hj).trans (p1 j hj), e1⟩
            | ct => exact fun σ3 F3 H3 rs3 g3 p3 => ⟨ρ3, F3, rs3, gr.trans (g2.trans g3), fun j hj => (p3 j hj).trans (p1 j hj), e1⟩
            | bk => cases e1; exact q2
            | rt r => cases e1; exact q2
            | ex x => cases e1; exact q2
theorem ps_whlD {X : Cx} {tst : Expr} {b : List Stmt} {pos : Pos} {t : Dx Bool} (n : Nat) (hp : PassesOwn (model X.prog X.w) X.A X.env X.xe) (ht : PT X tst (LT (kj J X) X.mg W t)) (hb : PSs X b (LS (kj J X) X.mg W pr g)) : PS X (.While tst b [] pos) (LS (kj J X) X.mg W pr (whN t g n)) :=
  PS.imp (ps_while hp ht hb) fun _ _ _ h => LS.whl h

/-! ### what is walked -/
def Stp (F H F' H' : Hp) : Prop := (F' = F ∧ H' = H) ∨ ∃ p o, H p = none ∧ F' = upd F p o ∧ H' = upd H p o
theorem Stp.ok (s : Stp F H F' H') (rs : RS K σ ρ F H) : RS K σ ρ F' H' ∧ Gr σ ρ F H σ ρ F' H' := by
  rcases s with ⟨rfl, rfl⟩ | ⟨p, o, hp, rfl, rfl⟩
  · exact ⟨rs, Gr.refl⟩
  · obtain ⟨a, b, _⟩ := newF (o := o) rs hp
    exact ⟨a, b⟩
/-- J gives the items xs, one after the other, as long as F0 stands -/
def Gives (K : Fg) (J : It) (xs : List D) (F0 : Hp) : Prop := ∀ (i : Nat) (F H : Hp), Sub F0 F → Sub F H →
  (xs.length ≤ i → J.stop i H) ∧ ∀ d, xs[i]? = some d → J.go i H ∧ ∀ v H', J.yld i H v H' → ∃ F', Stp F H F' H' ∧ Rep K F' d v
def LI (K : Fg) (mg : MG) (W : WX) (f : Dx (List D)) : TI := fun σ H R0 => ∃ ρ F r ρ', RS K σ ρ F H ∧ f ρ = some (r, ρ') ∧
  match (r : Except Exn (List D)) with
  | .ok xs => ∀ F' H' J, RS K σ ρ' F' H' → Gr σ ρ F H σ ρ' F' H' → Gives K J xs F' → R0 J H'
  | .error x => EX K mg W σ ρ F H x ρ'
/-- a target's function -/
abbrev GT := D → Env → Option Env
def LG (K : Fg) (pr : Nat → Bool) (t : GT) : TG := fun v σ H Q => ∃ ρ F x ρ', RS K σ ρ F H ∧ Rep K F x v ∧ t x ρ = some ρ' ∧
  ∀ σ' F' H', RS K σ' ρ' F' H' → Gr σ ρ F H σ' ρ' F' H' → (∀ j : Nat, pr j = true → σ'[j]? = σ[j]?) → Q σ' H'
def gNm (i : Nat) : GT := fun x ρ => if i < ρ.length then some (ρ.set i (some (.d x))) else none
theorem LG.name {i : Nat} (hp : pr i = false) {σ : L2.St} {H : Hp} {Q : L2.St → Hp → Prop} (h : LG K pr (gNm i) v σ H Q) : gName i v σ H Q := by
  obtain ⟨ρ, F, x, ρ', rs, r, e, q⟩ := h
  unfold gNm at e
  split at e
  · rename_i hi
    cases e
    obtain ⟨a, b⟩ := setD rs hi r
    exact q _ _ _ a b fun j hj => List.getElem?_set_ne (fun z => by subst z; rw [hp] at hj; cases hj)
  · cases e
/-- a tuple's items, one after the other -/
def gTs : List GT → List D → Env → Option Env
  | [], [], ρ => some ρ
  | t :: ts, x :: xs, ρ => (t x ρ).bind (gTs ts xs)
  | _, _, _ => none
def gTp (ts : List GT) : GT := fun x ρ => match x with
  | .tup xs => if xs.length = ts.length then gTs ts xs ρ else none
  | _ => none
def LGs (K : Fg) (pr : Nat → Bool) (ts : List GT) : TGs := fun vs σ H Q => ∃ ρ F xs ρ', RS K σ ρ F H ∧ Reps K F xs vs ∧ gTs ts xs ρ = some ρ' ∧
  ∀ σ' F' H', RS K σ' ρ' F' H' → Gr σ ρ F H σ' ρ' F' H' → (∀ j : Nat, pr j = true → σ'[j]? = σ[j]?) → Q σ' H'
theorem LGs.nil {vs : List V} {σ : L2.St} {H : Hp} {Q : L2.St → Hp → Prop} (h : LGs K pr [] vs σ H Q) : gNil vs σ H Q := by
  obtain ⟨ρ, F, xs, ρ', rs, r, e, q⟩ := h
  cases r with
  | nil =>
    cases e
    exact ⟨rfl, q _ _ _ rs Gr.refl fun _ _ => rfl⟩
  | cons a b => cases e
theorem LGs.cons {t : GT} {ts : List GT} {vs : List V} {σ : L2.St} {H : Hp} {Q : L2.St → Hp → Prop} (h : LGs K pr (t :: ts) vs σ H Q) : gCons (LG K pr t) (LGs K pr ts) vs σ H Q := by
  obtain ⟨ρ, F, xs, ρ', rs, r, e, q⟩ := h
  cases r with
  | nil => cases e
  | @cons d v ds vs a b =>
    have e : (t d ρ).bind (gTs ts ds) = some ρ' := e
    cases z : t d ρ with
    | none => rw [z] at e; cases e
    | some ρ1 =>
      rw [z] at e
      exact ⟨v, vs, rfl, ρ, F, d, ρ1, rs, a, z, fun σ1 F1 H1 rs1 g1 p1 => ⟨ρ1, F1, ds, ρ', rs1, b.sub g1.mono, e, fun σ2 F2 H2 rs2 g2 p2 => q σ2 F2 H2 rs2 (g1.trans g2) fun j hj => (p2 j hj).trans (p1 j hj)⟩⟩
theorem LG.tup {ts : List GT} {n : Nat} (hn : ts.length = n) {σ : L2.St} {H : Hp} {Q : L2.St → Hp → Prop} (h : LG K pr (gTp ts) v σ H Q) : gTup K n (LGs K pr ts) v σ H Q := by
  obtain ⟨ρ, F, x, ρ', rs, r, e, q⟩ := h
  unfold gTp at e
  cases r with
  | @tup a xs ds h1 h2 =>
    dsimp only at e
    split at e
    · rename_i hl
      exact ⟨a, xs, rfl, SqT.of (rs.sub _ _ h1), by rw [← h2.length, hl, hn], ρ, F, ds, ρ', rs, h2, e, q⟩
    · cases e
  | _ => cases e
def forL (t : GT) (g : DS) : List D → DS
  | [], ρ => some (.nx, ρ)
  | x :: xs, ρ => match t x ρ with
    | none => none
    | some ρ1 => match g ρ1 with
      | none => none
      | some (.nx, ρ2) => forL t g xs ρ2
      | some (.ct, ρ2) => forL t g xs ρ2
      | some (.bk, ρ2) => some (.nx, ρ2)
      | some (.rt r, ρ2) => some (.rt r, ρ2)
      | some (.ex x, ρ2) => some (.ex x, ρ2)
def sFor (it : Dx (List D)) (t : GT) (g : DS) : DS := bS it fun xs => forL t g xs
theorem LS.fors {it : Dx (List D)} {t : GT} {D0 : Ends} {σ : L2.St} {H : Hp} (h : LS K mg W pr (sFor it t g) D0 σ H) : tFor (LI K mg W it) (LG K pr t) (LS K mg W pr g) D0 σ H := by
  obtain ⟨ρ, F, c, ρ', rs, e, q⟩ := h
  unfold sFor bS at e
  cases z : it ρ with
  | none => rw [z] at e; cases e
  | some w =>
    obtain ⟨ri, ρ1⟩ := w
    rw [z] at e
    cases ri with
    | error x =>
      cases e
      exact ⟨ρ, F, .error x, _, rs, z, fun cls d F' H' rs' g' xr => q σ F' H' rs' g' (fun _ _ => rfl) cls d xr⟩
    | ok xs =>
      dsimp only at e
      refine ⟨ρ, F, .ok xs, ρ1, rs, z, fun F1 H1 J rs1 gr1 gv => ?_⟩
      refine ⟨fun i m σ2 H2 => m = xs.length - i ∧ i ≤ xs.length ∧ ∃ ρ2 F2, RS K σ2 ρ2 F2 H2 ∧ Gr σ ρ F H σ2 ρ2 F2 H2 ∧ Sub F1 F2 ∧ (∀ j : Nat, pr j = true → σ2[j]? = σ[j]?) ∧ forL t g (xs.drop i) ρ2 = some (c, ρ'),
        ⟨xs.length, rfl, Nat.zero_le _, ρ1, F1, rs1, gr1, Sub.refl, fun _ _ => rfl, e⟩, ?_⟩
      rintro i m σ2 H2 ⟨rfl, hi, ρ2, F2, rs2, gr2, sb, p2, e2⟩
      have q2 := q.shift gr2 p2
      obtain ⟨g1, g2⟩ := gv i F2 H2 sb rs2.sub
      by_cases hlt : i < xs.length
      · obtain ⟨hgo, hy⟩ := g2 xs[i] (by simp [hlt])
        rw [List.drop_eq_getElem_cons hlt] at e2
        unfold forL at e2
        cases y : t xs[i] ρ2 with
        | none => rw [y] at e2; cases e2
        | some ρ3 =>
          rw [y] at e2
          dsimp only at e2
          refine .inr ⟨hgo, fun σ5 H5 => ∃ ρ5 F5, RS K σ5 ρ5 F5 H5 ∧ Gr σ ρ F H σ5 ρ5 F5 H5 ∧ Sub F1 F5 ∧ (∀ j : Nat, pr j = true → σ5[j]? = σ[j]?) ∧ forL t g (xs.drop (i + 1)) ρ5 = some (c, ρ'),
            fun σ5 H5 w => ⟨xs.length - (i + 1), by omega, rfl, hlt, w⟩, fun v H3 hv => ?_⟩
          obtain ⟨F3, stp, rp⟩ := hy v H3 hv
          obtain ⟨rs3, gr3⟩ := stp.ok rs2
          refine ⟨ρ2, F3, xs[i], ρ3, rs3, rp, y, fun σ4 F4 H4 rs4 gr4 p4 => ?_⟩
          have gr24 := gr3.trans gr4
          have q4 := q2.shift gr24 p4
          have sb4 : Sub F1 F4 := sb.trans gr24.mono
          cases u : g ρ3 with
          | none => rw [u] at e2; cases e2
          | some w =>
            obtain ⟨c2, ρ4⟩ := w
            rw [u] at e2
            refine ⟨ρ3, F4, c2, ρ4, rs4, u, ?_⟩
            cases c2 with
            | nx => exact fun σ5 F5 H5 rs5 gr5 p5 => ⟨ρ4, F5, rs5, gr2.trans (gr24.trans gr5), sb4.trans gr5.mono, fun j hj => (p5 j hj).trans ((p4 j hj).trans (p2 j hj)), e2⟩
            | ct => exact fun σ5 F5 H5 rs5 gr5 p5 => ⟨ρ4, F5, rs5, gr2.trans (gr24.trans gr5), sb4.trans gr5.mono, fun j hj => (p5 j hj).trans ((p4 j hj).trans (p2 j hj)), e2⟩
            | bk => cases e2; exact q4
            | rt r => cases e2; exact q4
            | ex x => cases e2; exact q4
      · have ei : i = xs.length := by omega
        subst ei
        rw [List.drop_length] at e2
        cases e2
        exact .inl ⟨g1 (Nat.le_refl _), q2 σ2 F2 H2 rs2 Gr.refl fun _ _ => rfl⟩
theorem ps_forD {X : Cx} {tg iter : Expr} {b : List Stmt} {pos : Pos} {it : Dx (List D)} {t : GT} (hp : PassesOwn (model X.prog X.w) X.A X.env X.xe) (hc : X.calm = true) (hi : PI X tg iter (LI (kj J X) X.mg W it)) (hg : PG X tg (LG (kj J X) pr t)) (hb : PSs X b (LS (kj J X) X.mg W pr g))
    (hs : ∀ x, foldedSetIterable iter X.env x = pure x := by intro _; rfl) : PS X (.For tg iter b [] pos) (LS (kj J X) X.mg W pr (sFor it t g)) := PS.imp (ps_for hp hc hi hg hb hs) fun _ _ _ h => LS.fors h
end

/-! ### a def's body -/
def outs : List Bool → List S → Env → Option (List S)
  | [], _, _ => some []
  | b :: bs, s :: ss, o :: ρ => match (if b then o else some s), outs bs ss ρ with
    | some s', some r => some (s' :: r)
    | _, _ => none
  | _, _, _ => none
/-- an unprotected parameter holds data -/
def okP : List Bool → List S → Bool
  | [], [] => true
  | true :: bs, _ :: ss => okP bs ss
  | false :: bs, .d _ :: ss => okP bs ss
  | _, _ => false
/-- what a def does: pm says which parameters it leaves bound as they were, N the number of its names -/
def fnF (pm : List Bool) (N : Nat) (g : DS) : FD := fun ss => if okP pm ss = true then (match g (sl ss ++ List.replicate (N - pm.length) none) with
  | some (.nx, ρ) => (outs pm ss ρ).map fun o => (.ok (.d .non), o)
  | some (.rt (.d x), ρ) => (outs pm ss ρ).map fun o => (.ok (.d x), o)
  | some (.rt (.o x), ρ) => (outs pm ss ρ).map fun o => (.ok (.o x), o)
  | some (.ex x, ρ) => (outs pm ss ρ).map fun o => (.error x, o)
  | _ => none) else none
def prot (pm : List Bool) (j : Nat) : Bool := match pm[j]? with
  | some b => b
  | none => false
theorem okP_len : ∀ {pm : List Bool} {ss : List S}, okP pm ss = true → ss.length = pm.length
  | [], [], _ => rfl
  | [], _ :: _, h => by cases h
  | true :: bs, [], h => by cases h
  | false :: bs, [], h => by cases h
  | true :: bs, _ :: ss, h => congrArg (· + 1) (okP_len (pm := bs) h)
  | false :: bs, .d _ :: ss, h => congrArg (· + 1) (okP_len (pm := bs) h)
  | false :: bs, .o _ :: ss, h => by cases h
theorem okP_dat : ∀ {pm : List Bool} {ss : List S} {j : Nat} {s : S}, okP pm ss = true → pm[j]? = some false → ss[j]? = some s → ∃ x, s = .d x
  | [], _, _, _, _, h, _ => by simp at h
  | true :: bs, [], _, _, h, _, _ => by cases h
  | false :: bs, [], _, _, h, _, _ => by cases h
  | true :: bs, t :: ss, 0, s, _, h, _ => by simp at h
  | true :: bs, t :: ss, j + 1, s, h, h1, h2 => okP_dat (pm := bs) (j := j) h (by simpa using h1) (by simpa using h2)
  | false :: bs, .d x :: ss, 0, s, _, _, h => by
    simp at h
    exact ⟨x, h.symm⟩
  | false :: bs, .d x :: ss, j + 1, s, h, h1, h2 => okP_dat (pm := bs) (j := j) h (by simpa using h1) (by simpa using h2)
  | false :: bs, .o _ :: ss, _, _, h, _, _ => by cases h
theorem outs_get : ∀ {pm : List Bool} {ss : List S} {ρ : Env} {os : List S}, outs pm ss ρ = some os → os.length = pm.length ∧ ∀ (j : Nat) (o : S), os[j]? = some o → (pm[j]? = some true ∧ gt ρ j = some o) ∨ (pm[j]? = some false ∧ ss[j]? = some o)
  | [], ss, ρ, os, e => by
    cases e
    exact ⟨rfl, fun j o h => by simp at h⟩
  | b :: bs, [], ρ, os, e => by cases e
  | b :: bs, s :: ss, [], os, e => by cases e
  | b :: bs, s :: ss, o :: ρ, os, e => by
    unfold outs at e
    cases z1 : (if b then o else some s) with
    | none => rw [z1] at e; cases e
    | some s' =>
      cases z2 : outs bs ss ρ with
      | none => rw [z1, z2] at e; cases e
      | some r =>
        rw [z1, z2] at e
        cases e
        obtain ⟨l, h⟩ := outs_get z2
        refine ⟨congrArg (· + 1) l, fun j p hj => ?_⟩
        cases j with
        | zero =>
          simp at hj
          subst hj
          cases b with
          | true => exact .inl ⟨rfl, z1⟩
          | false => exact .inr ⟨rfl, z1⟩
        | succ j =>
          have := h j p (by simpa using hj)
          simpa [gt] using this
theorem gt_app {ss : List S} {m j : Nat} {s : S} (h : gt (sl ss ++ List.replicate m none) j = some s) : ss[j]? = some s := by
  induction ss generalizing j with
  | nil =>
    exfalso
    have : ∀ (m j : Nat), gt (List.replicate m none) j = none := by
      intro m
      induction m with
      | zero => intro j; rfl
      | succ m ih =>
        intro j
        cases j with
        | zero => rfl
        | succ j => exact ih j
    have h : gt (List.replicate m none) j = some s := h
    rw [this] at h
    cases h
  | cons a r ih =>
    cases j with
    | zero => simpa [sl, gt] using h
    | succ j =>
      have := ih (j := j) (by simpa [sl, gt] using h)
      simpa using this
theorem start_st {N : List Str} {vs : List V} {j : Nat} {v : V} (h : (st vs)[j]? = some (some v)) : (L2.start N vs)[j]? = some (some v) := by
  have h1 := st_get.mp h
  have hl : j < vs.length := (List.getElem?_eq_some_iff.mp h1).1
  unfold L2.start
  rw [List.getElem?_append_left (by rw [List.length_map]; exact hl)]
  exact h
section
variable {P : Program} {w : World} {K : Fg} {mg : MG} {base : Heap} {x qual : Str} {params : Arguments} {body : List Stmt} {scope : Scope} {dvs : List V} {kws : List (Str × V)} {f : Addr} {fd : FuncData}
/-- THE RULE: a def keeps the promise that it is its function, where its body's function is g -/
theorem fnD {N ps : List Str} {k : Nat} {pm : List Bool} {g : DS} (Fn : FunD K x qual params body scope dvs kws f fd) (S : FnScope N ps scope) (hpm : pm.length = ps.length)
    (hbody : ∀ (cdv : Value) (A : Around) (outer : List PySem.Env) (s : Shared) (H : Hp) (E : XK) (W : WX), Room k (cxOf (L2.CX P w) P w K mg base N qual scope f cdv A outer s H E).A → A.guards = some [] →
      Takes (cxOf (L2.CX P w) P w K mg base N qual scope f cdv A outer s H E) W → PassesOwn (model P w) (cxOf (L2.CX P w) P w K mg base N qual scope f cdv A outer s H E).A (cxOf (L2.CX P w) P w K mg base N qual scope f cdv A outer s H E).env (cxOf (L2.CX P w) P w K mg base N qual scope f cdv A outer s H E).xe →
      PSs (cxOf (L2.CX P w) P w K mg base N qual scope f cdv A outer s H E) body (LS K mg W (prot pm) g)) : FnG P w K mg base (k + 1) f fd ps (spD K mg pm.length (fnF pm N.length g)) := by
  refine fn_G Fn S (spD_len hpm) fun cdv A outer s H vs Q E hr hG hsp => ?_
  refine ⟨_, hbody cdv A outer s H E (fun cls d _ H => E cls d H) hr hG (takes_of rfl rfl rfl rfl) (passes_of rfl), ?_⟩
  obtain ⟨ss, F, r, os, rs, hl, e, q⟩ := hsp
  have hNp : ps.length ≤ N.length := by
    have := congrArg List.length S.pre
    rw [List.length_take] at this
    omega
  have hvs : vs.length = ss.length := by
    have := rs.len
    unfold sl st at this
    rw [List.length_map, List.length_map] at this
    omega
  unfold fnF at e
  split at e
  · rename_i hok
    have rs0 : RS K (L2.start N vs) (sl ss ++ List.replicate (N.length - pm.length) none) F H := by
      refine ⟨rs.sub, ?_, fun j y h => ?_, fun j y h => ?_, fun i j y z p h1 h2 h3 h4 => ?_, fun j y h => ?_⟩
      · unfold sl L2.start
        simp only [List.length_append, List.length_map, List.length_replicate]
        omega
      · obtain ⟨v, e1, r1⟩ := rs.dat j y (by rw [gt_sl]; exact gt_app h)
        exact ⟨v, start_st e1, r1⟩
      · obtain ⟨v, e1, r1⟩ := rs.own j y (by rw [gt_sl]; exact gt_app h)
        exact ⟨v, start_st e1, r1⟩
      · have a1 := gt_app h1
        have a2 := gt_app h2
        obtain ⟨p1, b1, _⟩ := rs.own i y (by rw [gt_sl]; exact a1)
        obtain ⟨p2, b2, _⟩ := rs.own j z (by rw [gt_sl]; exact a2)
        have c1 := start_st (N := N) b1
        have c2 := start_st (N := N) b2
        rw [h3] at c1
        rw [h4] at c2
        cases c1
        cases c2
        exact rs.inj i j y z p (by rw [gt_sl]; exact a1) (by rw [gt_sl]; exact a2) b1 b2
      · obtain ⟨v, e1, r1⟩ := rs.exc j y (by rw [gt_sl]; exact gt_app h)
        exact ⟨v, start_st e1, r1⟩
    have ow0 : ∀ p, Ow (sl ss ++ List.replicate (N.length - pm.length) none) (L2.start N vs) p → Ow (sl ss) (st vs) p := by
      rintro p ⟨j, y, h1, h2⟩
      have a1 := gt_app h1
      obtain ⟨p1, b1, _⟩ := rs.own j y (by rw [gt_sl]; exact a1)
      have c1 := start_st (N := N) b1
      rw [h2] at c1
      cases c1
      exact ⟨j, y, by rw [gt_sl]; exact a1, b1⟩
    have ow1 : ∀ p, Ow (sl ss) (st vs) p → Ow (sl ss ++ List.replicate (N.length - pm.length) none) (L2.start N vs) p := by
      rintro p ⟨j, y, h1, h2⟩
      refine ⟨j, y, ?_, start_st h2⟩
      clear e q hok
      have hj : j < (sl ss).length := gt_lt h1
      have : ∀ (ρ τ : Env) (j : Nat), j < ρ.length → gt (ρ ++ τ) j = gt ρ j := by
        intro ρ
        induction ρ with
        | nil => intro τ j h; simp at h
        | cons a r ih =>
          intro τ j h
          cases j with
          | zero => rfl
          | succ j => exact ih τ j (by simpa using h)
      rw [this _ _ _ hj]
      exact h1
    -- the world at the end
    have fin : ∀ {σ' : L2.St} {ρ' : Env} {F' H' : Hp} {os : List Dn.S}, outs pm ss ρ' = some os → RS K σ' ρ' F' H' → Gr (L2.start N vs) (sl ss ++ List.replicate (N.length - pm.length) none) F H σ' ρ' F' H' → (∀ j : Nat, prot pm j = true → σ'[j]? = (L2.start N vs)[j]?) →
        RS K (st vs) (sl os) F' H' ∧ Gr (st vs) (sl ss) F H (st vs) (sl os) F' H' ∧ ∀ p, Ow (sl os) (st vs) p → Ow ρ' σ' p := by
      intro σ' ρ' F' H' os eo rs' gr hp
      obtain ⟨lo, ho⟩ := outs_get eo
      have lss := okP_len hok
      have key : ∀ (j : Nat) (o : Dn.S), gt (sl os) j = some o → (gt ρ' j = some o ∧ ∀ v, σ'[j]? = some (some v) → (st vs)[j]? = some (some v)) ∨ ∃ z, o = .d z ∧ gt (sl ss) j = some (.d z) := by
        intro j o h
        rw [gt_sl] at h
        rcases ho j o h with ⟨h1, h2⟩ | ⟨h1, h2⟩
        · refine .inl ⟨h2, fun v hv => ?_⟩
          rw [hp j (by unfold prot; rw [h1])] at hv
          have hj : j < vs.length := by
            have := (List.getElem?_eq_some_iff.mp h1).1
            omega
          unfold L2.start at hv
          rw [List.getElem?_append_left (by rw [List.length_map]; exact hj)] at hv
          exact hv
        · obtain ⟨z, rfl⟩ := okP_dat hok h1 h2
          exact .inr ⟨z, rfl, by rw [gt_sl]; exact h2⟩
      have owf : ∀ p, Ow (sl os) (st vs) p → Ow ρ' σ' p := by
        rintro p ⟨j, y, h1, h2⟩
        rcases key j _ h1 with ⟨h3, h4⟩ | ⟨z, h3, _⟩
        · obtain ⟨p', e1, _⟩ := rs'.own j y h3
          have := h4 _ e1
          rw [h2] at this
          cases this
          exact ⟨j, y, h3, e1⟩
        · cases h3
      refine ⟨⟨rs'.sub, ?_, fun j y h => ?_, fun j y h => ?_, fun i j y z p h1 h2 h3 h4 => ?_, fun j y h => ?_⟩, ⟨fun a ha hn => gr.keep a ha fun z => hn (ow0 a z), gr.live, gr.mono, fun a ha hn => gr.nofz a ha fun z => hn (ow0 a z), fun p h => ?_⟩, owf⟩
      · unfold sl st
        rw [List.length_map, List.length_map]
        omega
      · rcases key j _ h with ⟨h3, h4⟩ | ⟨z, h3, h5⟩
        · obtain ⟨v, e1, r1⟩ := rs'.dat j y h3
          exact ⟨v, h4 v e1, r1⟩
        · cases h3
          obtain ⟨v, e1, r1⟩ := rs.dat j _ h5
          exact ⟨v, e1, r1.sub gr.mono⟩
      · rcases key j _ h with ⟨h3, h4⟩ | ⟨z, h3, h5⟩
        · obtain ⟨p, e1, r1⟩ := rs'.own j y h3
          exact ⟨p, h4 _ e1, r1⟩
        · cases h3
      · rcases key i _ h1 with ⟨a1, a2⟩ | ⟨_, a1, _⟩
        · rcases key j _ h2 with ⟨b1, b2⟩ | ⟨_, b1, _⟩
          · obtain ⟨p1, c1, _⟩ := rs'.own i y a1
            obtain ⟨p2, c2, _⟩ := rs'.own j z b1
            have d1 := a2 _ c1
            have d2 := b2 _ c2
            rw [h3] at d1
            rw [h4] at d2
            cases d1
            cases d2
            exact rs'.inj i j y z p a1 b1 c1 c2
          · cases b1
        · cases a1
      · rcases key j _ h with ⟨h3, h4⟩ | ⟨z, h3, h5⟩
        · obtain ⟨a, e1, r1⟩ := rs'.exc j y h3
          exact ⟨a, h4 _ e1, r1⟩
        · cases h3
      · rcases gr.sub p (owf p h) with z | z
        · exact .inl (ow0 p z)
        · exact .inr z
    cases z : g (sl ss ++ List.replicate (N.length - pm.length) none) with
    | none => rw [z] at e; cases e
    | some y =>
      obtain ⟨c, ρ'⟩ := y
      rw [z] at e
      refine ⟨_, F, c, ρ', rs0, z, fun σ' F' H' rs' gr hp => ?_⟩
      cases c with
      | bk => cases e
      | ct => cases e
      | nx =>
        dsimp only at e
        cases eo : outs pm ss ρ' with
        | none => rw [eo] at e; cases e
        | some o =>
          rw [eo] at e
          cases e
          obtain ⟨a1, a2, _⟩ := fin eo rs' gr hp
          exact q F' H' a1 a2 .non .non
      | ex x =>
        dsimp only at e
        cases eo : outs pm ss ρ' with
        | none => rw [eo] at e; cases e
        | some o =>
          rw [eo] at e
          cases e
          obtain ⟨a1, a2, _⟩ := fin eo rs' gr hp
          exact q F' H' a1 a2
      | rt r =>
        cases r with
        | s i => cases e
        | d x =>
          dsimp only at e
          cases eo : outs pm ss ρ' with
          | none => rw [eo] at e; cases e
          | some o =>
            rw [eo] at e
            cases e
            obtain ⟨a1, a2, _⟩ := fin eo rs' gr hp
            exact fun v rr => q F' H' a1 a2 v rr
        | o x =>
          dsimp only at e
          cases eo : outs pm ss ρ' with
          | none => rw [eo] at e; cases e
          | some o =>
            rw [eo] at e
            cases e
            obtain ⟨a1, a2, a3⟩ := fin eo rs' gr hp
            refine fun v rr => q F' H' a1 a2 v ?_
            obtain ⟨p, rfl, b1, b2, b3⟩ := rr
            exact ⟨p, rfl, b1, fun z => b2 (a3 p z), b3⟩
  · cases e
end
end Dn
end

section
set_option Elab.async false
set_option linter.all false
set_option maxRecDepth 100000
set_option maxHeartbeats 2000000
/-! Dn: what is walked; comprehensions. -/
namespace Dn
open PySem PySem.Spec L2
section
variable {K : Fg} {mg : MG} {W : WX} {pr : Nat → Bool} {σ σ1 σ' : L2.St} {ρ ρ1 ρ' : Env} {F F1 F' H H1 H' H0 : Hp} {v u : V} {f fa fb : DE} {x y : D} {g g1 g2 : DS} {c : Ctl} {D0 : Ends}
theorem PI.imp {X : Cx} {tg e : Expr} {t t' : TI} (h : PI X tg e t) (i : ∀ σ H R0, t' σ H R0 → t σ H R0) : PI X tg e t' := ⟨fun pins s σ H R0 I q => h.run pins s σ H R0 I (i σ H R0 q)⟩
/-! ### lists and tuples -/
theorem gives_list {a : Addr} {ds : List D} {xs : List V} {F0 : Hp} (h : F0 a = some (.lst xs)) (r : Reps K F0 ds xs) : Gives K (Itl K a) ds F0 := by
  intro i F H s1 s2
  have q : H a = some (.lst xs) := s2 _ _ (s1 _ _ h)
  refine ⟨fun hl => ⟨xs, SqL.of q, by rw [← r.length]; exact hl⟩, fun d hd => ?_⟩
  obtain ⟨v, hv, rv⟩ := r.get hd
  exact ⟨⟨xs, v, SqL.of q, hv⟩, fun w H' hw => ⟨F, .inl ⟨rfl, hw.1⟩, by
    have := hw.2 xs (SqL.of q)
    rw [hv] at this
    cases this
    exact rv.sub s1⟩⟩
theorem gives_src {a : Addr} {ns : List Int} {F0 : Hp} (h : SqL K F0 a (ns.map V.int)) : Gives K (Itl K a) (ns.map .int) F0 := by
  intro i F H s1 s2
  have q : SqL K H a (ns.map V.int) := SqL.sub s2 (SqL.sub s1 h)
  refine ⟨fun hl => ⟨_, q, by rw [List.length_map] at hl ⊢; exact hl⟩, fun d hd => ?_⟩
  obtain ⟨v, hv, rv⟩ := (Reps.nums (K := K) (F := F) ns).get hd
  exact ⟨⟨_, v, q, hv⟩, fun w H' hw => ⟨F, .inl ⟨rfl, hw.1⟩, by
    have := hw.2 _ q
    rw [hv] at this
    cases this
    exact rv⟩⟩
theorem gives_tup {a : Addr} {ds : List D} {xs : List V} {F0 : Hp} (h : SqT K F0 a xs) (r : Reps K F0 ds xs) : Gives K (Itt K a) ds F0 := by
  intro i F H s1 s2
  have q : SqT K H a xs := SqT.sub s2 (SqT.sub s1 h)
  refine ⟨fun hl => ⟨xs, q, by rw [← r.length]; exact hl⟩, fun d hd => ?_⟩
  obtain ⟨v, hv, rv⟩ := r.get hd
  exact ⟨⟨xs, v, q, hv⟩, fun w H' hw => ⟨F, .inl ⟨rfl, hw.1⟩, by
    have := hw.2 xs q
    rw [hv] at this
    cases this
    exact rv.sub s1⟩⟩
def iSeq (K : PySem.W.Frag) (tl : TE) : TI := fun σ H R0 => tl σ H fun x H1 => ∃ a, x = .ref a ∧ (((∃ xs, SqL K H1 a xs) ∧ R0 (Itl K a) H1) ∨ ((∃ xs, SqT K H1 a xs) ∧ R0 (Itt K a) H1))
theorem pi_seq {X : Cx} {tg l : Expr} {tl : TE} (hl : PE X l tl) : PI X tg l (iSeq X.K tl) := by
  refine ⟨fun pins s σ H R0 I0 h0 => ?_⟩
  refine thn (hl.run pins s σ H _ I0 h0) fun v s1 ⟨x, H1, I1, r1, q1⟩ => ?_
  obtain ⟨a, rfl, q1⟩ := q1
  cases r1
  have fr : ∀ b ∈ [s1.heap.objs.size], FpOk X pins H1 b := fun b hb => by
    obtain rfl : b = s1.heap.objs.size := by simpa using hb
    exact I1.fpOk (Nat.le_refl _) (I1.hok.fresh (Nat.le_refl _))
  rcases q1 with ⟨⟨xs, hq⟩, q⟩ | ⟨⟨xs, hq⟩, q⟩
  · obtain ⟨its, rv, p, hz⟩ := I1.list hq
    exact wpAny_pyIter_list p.isList ⟨s1.heap.objs.size, [s1.heap.objs.size], _, _, H1, rfl, I1.kept (t' := s1.toks) fun b o e => Heap.get?_push_of_some _ e, turn_list a _, ⟨_, Heap.get?_push_size _ rfl, rfl, rfl⟩, fr, q⟩
  · obtain ⟨its, rv, p, hz⟩ := I1.tuple hq
    exact wpAny_pyIter_tuple (show s1.heap.IsTuple a its.toArray from p) ⟨s1.heap.objs.size, [s1.heap.objs.size], _, _, H1, rfl, I1.kept (t' := s1.toks) fun b o e => Heap.get?_push_of_some _ e, turn_tuple a _, ⟨_, Heap.get?_push_size _ rfl, rfl, rfl⟩, fr, q⟩
def seqOf : D → Option (List D)
  | .lst ds => some ds
  | .tup ds => some ds
  | .src ns => some (ns.map .int)
  | .ktup ds => some ds
  | _ => none
/-- a sequence, as data, then k of its items -/
def itSeq (f : DE) : Dx (List D) := bE f fun a => fun ρ => match toD ρ (nrm a) with
  | some (x, ρ1) => (seqOf x).map fun ds => (.ok ds, ρ1)
  | none => none
theorem LI.seq {R0 : It → Hp → Prop} (h : LI K mg W (itSeq f) σ H R0) : iSeq K (LE K mg W f) σ H R0 := by
  obtain ⟨ρ, F, r, ρ', rs, e, q⟩ := h
  refine LE.opnd (k := fun a => fun ρ => match toD ρ a with
    | some (x, ρ1) => (seqOf x).map fun ds => (.ok ds, ρ1)
    | none => none) rs e (fun x hx => by subst hx; exact q) fun a v ρ1 F1 H1 rs1 g1 ro e1 => ?_
  cases ea : toD ρ1 a with
  | none => rw [ea] at e1; cases e1
  | some z =>
    obtain ⟨x, ρ2⟩ := z
    rw [ea] at e1
    obtain ⟨F2, rs2, g2, rp⟩ := toD_ok rs1 ro ea
    dsimp only at e1
    cases es : seqOf x with
    | none => rw [es] at e1; cases e1
    | some ds =>
      rw [es] at e1
      cases e1
      cases rp with
      | tup h1 h2 =>
        cases es
        exact ⟨_, rfl, .inr ⟨⟨_, SqT.of (rs2.sub _ _ h1)⟩, q F2 H1 _ rs2 (g1.trans g2) (gives_tup (SqT.of h1) h2)⟩⟩
      | ktup h1 h2 =>
        cases es
        exact ⟨_, rfl, .inr ⟨⟨_, SqT.sub rs2.sub h1⟩, q F2 H1 _ rs2 (g1.trans g2) (gives_tup h1 h2)⟩⟩
      | lst h1 h2 =>
        cases es
        exact ⟨_, rfl, .inl ⟨⟨_, SqL.of (rs2.sub _ _ h1)⟩, q F2 H1 _ rs2 (g1.trans g2) (gives_list h1 h2)⟩⟩
      | src h1 =>
        cases es
        exact ⟨_, rfl, .inl ⟨⟨_, SqL.sub rs2.sub h1⟩, q F2 H1 _ rs2 (g1.trans g2) (gives_src h1)⟩⟩
      | _ => cases es
theorem pi_seqD {X : Cx} {tg l : Expr} (hl : PE X l (LE (kj J X) X.mg W f)) : PI X tg l (LI (kj J X) X.mg W (itSeq f)) := PI.imp (pi_seq hl) fun _ _ _ h => LI.seq h
/-! ### ranges -/
def rng (lo : Int) (n : Nat) : List D := (List.range n).map fun i => .int (lo + (i : Nat))
theorem gives_rng {lo : Int} {n : Nat} {F0 : Hp} : Gives K (Itr lo n) (rng lo n) F0 := by
  intro i F H _ _
  have hl : (rng lo n).length = n := by simp [rng]
  refine ⟨fun h => by rw [hl] at h; exact h, fun d hd => ?_⟩
  have hi : i < n := by
    have := (List.getElem?_eq_some_iff.mp hd).1
    omega
  unfold rng at hd
  rw [List.getElem?_map, List.getElem?_range hi] at hd
  cases hd
  exact ⟨hi, fun v H' hv => ⟨F, .inl ⟨rfl, hv.1⟩, by rw [hv.2]; exact .int _⟩⟩
/-- operands, then their items -/
def itN (fs : List DE) (k : List D → Option (List D)) : Dx (List D) := bE (eA fs) fun as => fun ρ => match (pks ρ as).bind k with
  | some ds => some (.ok ds, ρ)
  | none => none
theorem LI.ops {fs : List DE} {k : List D → Option (List D)} {R0 : It → Hp → Prop} {G : List V → Hp → Prop} (h : LI K mg W (itN fs k) σ H R0)
    (hop : ∀ xs vs ds ρ F H1, RS K σ ρ F H1 → PKs K F H1 xs vs → k xs = some ds → (∀ J, Gives K J ds F → R0 J H1) → G vs H1) : LA K mg W fs σ H G := by
  obtain ⟨ρ, F, r, ρ', rs, e, q⟩ := h
  refine LA.bind rs e (fun x hx => by subst hx; exact q) fun as vs ρ1 F1 H1 rs1 g1 ro e1 => ?_
  cases ea : pks ρ1 as with
  | none => simp [ea] at e1
  | some xs =>
    cases eb : k xs with
    | none => simp [ea, eb] at e1
    | some ds =>
      simp only [ea, eb, Option.bind_some] at e1
      cases e1
      exact hop xs vs ds _ F1 H1 rs1 (pks_ok rs1 ro ea) eb fun J gv => q F1 H1 J rs1 g1 gv
def kRng1 : List D → Option (List D)
  | [.int j] => if -4611686018427387904 ≤ j ∧ j < 4611686018427387904 then some (rng 0 j.toNat) else none
  | _ => none
theorem pi_rng1D {X : Cx} {tg a : Expr} {p pos : Pos} (hg : Gl X "range") (hm : X.mg "range" = none) (ha : PE X a (LE (kj J X) X.mg W f)) (hs : starEach [a] X.env = [(false, eval a X.env)] := by rfl)
    (hs2 : starEach (a :: []) X.env = (false, eval a X.env) :: starEach [] X.env := by rfl) :
    PI X tg (.Call (.Name "range" p) [a] [] pos) (LI (kj J X) X.mg W (itN [f] kRng1)) :=
  PI.imp (pi_range1 hg hm (PA.imp (pa_cons ha (PA.imp pa_nil fun _ _ _ h => LA.nil h) hs2) fun _ _ _ h => LA.cons h) hs) fun σ H R0 h => LI.ops h fun xs vs ds ρ F H1 rs pk e q => by
    unfold kRng1 at e
    split at e
    · split at e
      · rename_i hc
        cases e
        cases pk with
        | cons h1 h2 =>
          cases h2
          cases h1.int
          exact ⟨_, rfl, by have := hc.1; omega, by have := hc.2; omega, q _ gives_rng⟩
      · cases e
    · cases e
def kRng2 : List D → Option (List D)
  | [.int i, .int j] => if -4611686018427387904 ≤ i ∧ i < 4611686018427387904 ∧ -4611686018427387904 ≤ j ∧ j < 4611686018427387904 then some (rng i (j - i).toNat) else none
  | _ => none
theorem pi_rng2D {X : Cx} {tg a b : Expr} {p pos : Pos} (hg : Gl X "range") (hm : X.mg "range" = none) (ha : PE X a (LE (kj J X) X.mg W fa)) (hb : PE X b (LE (kj J X) X.mg W fb)) (hs : starEach [a, b] X.env = [(false, eval a X.env), (false, eval b X.env)] := by rfl)
    (hs2 : starEach [b] X.env = [(false, eval b X.env)] := by rfl) (hs3 : starEach (a :: [b]) X.env = (false, eval a X.env) :: starEach [b] X.env := by rfl) (hs4 : starEach (b :: []) X.env = (false, eval b X.env) :: starEach [] X.env := by rfl) :
    PI X tg (.Call (.Name "range" p) [a, b] [] pos) (LI (kj J X) X.mg W (itN [fa, fb] kRng2)) :=
  PI.imp (pi_range2 hg hm (PA.imp (pa_cons ha (PA.imp (pa_cons hb (PA.imp pa_nil fun _ _ _ h => LA.nil h) hs4) fun _ _ _ h => LA.cons h) hs3) fun _ _ _ h => LA.cons h) hs hs2) fun σ H R0 h => LI.ops h fun xs vs ds ρ F H1 rs pk e q => by
    unfold kRng2 at e
    split at e
    · split at e
      · rename_i hc
        cases e
        cases pk with
        | cons h1 h2 =>
          cases h2 with
          | cons h2 h3 =>
            cases h3
            cases h1.int
            cases h2.int
            exact ⟨_, _, rfl, ⟨by have := hc.1; omega, by have := hc.2.1; omega, by have := hc.2.2.1; omega, by have := hc.2.2.2; omega⟩, q _ gives_rng⟩
      · cases e
    · cases e
/-! ### enumerate, zip -/
def pairs (xs ys : List D) : List D := (xs.zip ys).map fun p => .tup [p.1, p.2]
theorem gives_enum {a : Addr} {ds : List D} {xs : List V} {F0 : Hp} (h : F0 a = some (.lst xs)) (r : Reps K F0 ds xs) : Gives K (Ite K a) (pairs (rng 0 ds.length) ds) F0 := by
  intro i F H s1 s2
  have q : H a = some (.lst xs) := s2 _ _ (s1 _ _ h)
  have hl : (pairs (rng 0 ds.length) ds).length = ds.length := by simp [pairs, rng]
  refine ⟨fun h => ⟨xs, SqL.of q, by rw [← r.length, ← hl]; exact h⟩, fun d hd => ?_⟩
  have hi : i < ds.length := by
    have := (List.getElem?_eq_some_iff.mp hd).1
    omega
  obtain ⟨v, hv, rv⟩ := r.get (List.getElem?_eq_getElem hi)
  have ed : d = .tup [.int ((i : Nat) : Int), ds[i]] := by
    have e1 : (pairs (rng 0 ds.length) ds)[i]? = some (.tup [.int ((i : Nat) : Int), ds[i]]) := by
      have l1 : i < (pairs (rng 0 ds.length) ds).length := by rw [hl]; exact hi
      rw [List.getElem?_eq_getElem l1]
      simp [pairs, rng]
    rw [e1] at hd
    exact (Option.some.inj hd).symm
  subst ed
  refine ⟨⟨xs, v, SqL.of q, hv⟩, fun w H' ⟨T, x, e1, hT, e2, hx⟩ => ?_⟩
  have := hx xs (SqL.of q)
  rw [hv] at this
  cases this
  subst e1
  have fT : F T = none := by
    cases z : F T with
    | none => rfl
    | some o => rw [s2 _ _ z] at hT; cases hT
  have sb : Sub F (upd F T (.tup [.int ((i : Nat) : Int), v])) := fun c u e => by rw [upd_ne (fun z => by rw [z, fT] at e; cases e)]; exact e
  exact ⟨_, .inr ⟨T, _, hT, rfl, e2⟩, .tup upd_same (.cons (.int _) (.cons (rv.sub (s1.trans sb)) .nil))⟩
def kEnum (x : D) : Option (List D) := match x with
  | .lst ds => some (pairs (rng 0 ds.length) ds)
  | _ => none
/-- one operand, as data, then the items -/
def itD (f : DE) (k : D → Option (List D)) : Dx (List D) := bE f fun a => fun ρ => match toD ρ (nrm a) with
  | some (x, ρ1) => (k x).map fun ds => (.ok ds, ρ1)
  | none => none
theorem LI.dat {k : D → Option (List D)} {R0 : It → Hp → Prop} {G : List V → Hp → Prop} (h : LI K mg W (itD f k) σ H R0)
    (hop : ∀ x v ds ρ F H1, RS K σ ρ F H1 → Rep K F x v → k x = some ds → (∀ J, Gives K J ds F → R0 J H1) → G [v] H1) : LA K mg W [f] σ H G := by
  obtain ⟨ρ, F, r, ρ', rs, e, q⟩ := h
  unfold itD bE at e
  cases ef : f ρ with
  | none => rw [ef] at e; cases e
  | some z =>
    obtain ⟨ra, ρ1⟩ := z
    rw [ef] at e
    cases ra with
    | error x =>
      cases e
      refine ⟨ρ, F, .error x, ρ', rs, ?_, q⟩
      unfold eA bE
      rw [ef]
    | ok a =>
      dsimp only at e
      refine ⟨ρ, F, .ok [nrm a], ρ1, rs, ?_, fun vs F1 H1 rs1 g1 ro => ?_⟩
      · unfold eA bE
        rw [ef]
        rfl
      · cases ro with
        | cons ro rn =>
          cases rn
          cases ea : toD ρ1 (nrm a) with
          | none => rw [ea] at e; cases e
          | some z =>
            obtain ⟨x, ρ2⟩ := z
            rw [ea] at e
            obtain ⟨F2, rs2, g2, rp⟩ := toD_ok rs1 ro ea
            dsimp only at e
            cases es : k x with
            | none => rw [es] at e; cases e
            | some ds =>
              rw [es] at e
              cases e
              exact hop x _ ds _ F2 H1 rs2 rp es fun J gv => q F2 H1 J rs2 (g1.trans g2) gv
theorem pa_one {X : Cx} {a : Expr} (ha : PE X a (LE (kj J X) X.mg W f)) (hs2 : starEach (a :: []) X.env = (false, eval a X.env) :: starEach [] X.env := by rfl) : PA X [a] (LA (kj J X) X.mg W [f]) :=
  PA.imp (pa_cons ha (PA.imp pa_nil fun _ _ _ h => LA.nil h) hs2) fun _ _ _ h => LA.cons h
theorem pi_enumD {X : Cx} {e : Expr} {p pos tpos : Pos} {elts : List Expr} {kk : Nat} (hg : Gl X "enumerate") (hm : X.mg "enumerate" = none) (ha : PE X e (LE (kj J X) X.mg W f)) (hs : starEach [e] X.env = [(false, eval e X.env)] := by rfl)
    (hs2 : starEach (e :: []) X.env = (false, eval e X.env) :: starEach [] X.env := by rfl) : PI X (.Tuple elts kk tpos) (.Call (.Name "enumerate" p) [e] [] pos) (LI (kj J X) X.mg W (itD f kEnum)) :=
  PI.imp (pi_enum hg hm (pa_one ha hs2) hs) fun σ H R0 h => LI.dat h fun x v ds ρ F H1 rs rp e q => by
    cases rp with
    | lst h1 h2 =>
      cases e
      exact ⟨_, _, rfl, SqL.of (rs.sub _ _ h1), q _ (gives_enum h1 h2)⟩
    | _ => cases e

/-! ### comprehensions -/
def wipeE (ρ : Env) : List Nat → Env
  | [] => ρ
  | v :: vs => (wipeE ρ vs).set v none
theorem wipeE_len (ρ : Env) : ∀ vs : List Nat, (wipeE ρ vs).length = ρ.length
  | [] => rfl
  | v :: vs => by unfold wipeE; rw [List.length_set, wipeE_len ρ vs]
theorem wipeE_some {i : Nat} {s : Dn.S} : ∀ {vs : List Nat}, gt (wipeE ρ vs) i = some s → gt ρ i = some s ∧ i ∉ vs
  | [], h => ⟨h, by simp⟩
  | v :: vs, h => by
    unfold wipeE at h
    by_cases q : i = v
    · subst q
      by_cases hl : i < (wipeE ρ vs).length
      · rw [gt_same hl] at h
        cases h
      · rw [List.set_eq_of_length_le (by omega)] at h
        exact absurd (gt_lt h) hl
    · rw [gt_ne q] at h
      obtain ⟨h1, h2⟩ := wipeE_some h
      exact ⟨h1, by simp only [List.mem_cons, not_or]; exact ⟨q, h2⟩⟩
theorem wipe_out' {i : Nat} : ∀ {vs : List Nat}, i ∉ vs → (wipe σ vs)[i]? = σ[i]?
  | [], _ => rfl
  | v :: vs, h => by
    simp only [List.mem_cons, not_or] at h
    unfold wipe
    rw [List.getElem?_set_ne (Ne.symm h.1)]
    exact wipe_out' h.2
/-- forgetting slots, ahead of a turn and behind it -/
theorem wipe_rs {vs : List Nat} (rs : RS K σ1 ρ F H) (e : wipe σ1 vs = wipe σ vs) (hl : σ1.length = σ.length) : RS K σ (wipeE ρ vs) F H ∧ RS K (wipe σ1 vs) (wipeE ρ vs) F H ∧ (∀ p, Ow (wipeE ρ vs) σ p → Ow ρ σ1 p) ∧ ∀ p, Ow (wipeE ρ vs) (wipe σ1 vs) p → Ow ρ σ1 p := by
  have a1 : ∀ i, i ∉ vs → σ[i]? = σ1[i]? := fun i h => by rw [← wipe_out' (σ := σ) h, ← e, wipe_out' h]
  have a2 : ∀ i, i ∉ vs → (wipe σ1 vs)[i]? = σ1[i]? := fun i h => wipe_out' h
  have b : ∀ (i : Nat) (s : Dn.S), gt (wipeE ρ vs) i = some s → gt ρ i = some s ∧ i ∉ vs := fun i s h => wipeE_some h
  have mk : ∀ τ : L2.St, (∀ i, i ∉ vs → τ[i]? = σ1[i]?) → τ.length = σ1.length → RS K τ (wipeE ρ vs) F H ∧ ∀ p, Ow (wipeE ρ vs) τ p → Ow ρ σ1 p := by
    intro τ a hτ
    refine ⟨⟨rs.sub, by rw [wipeE_len, hτ]; exact rs.len, fun i y h => ?_, fun i y h => ?_, fun i k y z p h1 h2 h3 h4 => ?_, fun i y h => ?_⟩, ?_⟩
    · obtain ⟨h, n⟩ := b i _ h
      rw [a i n]
      exact rs.dat i y h
    · obtain ⟨h, n⟩ := b i _ h
      rw [a i n]
      exact rs.own i y h
    · obtain ⟨h1, n1⟩ := b i _ h1
      obtain ⟨h2, n2⟩ := b k _ h2
      rw [a i n1] at h3
      rw [a k n2] at h4
      exact rs.inj i k y z p h1 h2 h3 h4
    · obtain ⟨h, n⟩ := b i _ h
      rw [a i n]
      exact rs.exc i y h
    · rintro p ⟨i, y, h1, h2⟩
      obtain ⟨h1, n1⟩ := b i _ h1
      rw [a i n1] at h2
      exact ⟨i, y, h1, h2⟩
  obtain ⟨m1, m2⟩ := mk σ a1 hl.symm
  obtain ⟨m3, m4⟩ := mk (wipe σ1 vs) a2 (wipe_length _ _)
  exact ⟨m1, m3, m2, m4⟩
def compL (vs : List Nat) (t : GT) (tt : Dx Bool) (e : DE) : List D → List D → Dx (List D)
  | [], acc, ρ => some (.ok acc, ρ)
  | x :: xs, acc, ρ => match t x (wipeE ρ vs) with
    | none => none
    | some ρ1 => match tt ρ1 with
      | some (.ok false, ρ2) => compL vs t tt e xs acc (wipeE ρ2 vs)
      | some (.ok true, ρ2) => (match e ρ2 with
        | some (.ok a, ρ3) => (match toD ρ3 (nrm a) with
          | some (y, ρ4) => if acc.length < sizeLine then compL vs t tt e xs (acc ++ [y]) (wipeE ρ4 vs) else none
          | none => none)
        | _ => none)
      | _ => none
def xLc (it : Dx (List D)) (vs : List Nat) (t : GT) (tt : Dx Bool) (e : DE) : DE := bE it fun xs => bE (compL vs t tt e xs []) fun acc => rE (.o (.lst acc))
abbrev noX : WX := fun _ _ _ _ => False
def tLT (K : Fg) (mg : MG) (tt : Dx Bool) : TT := LT K mg noX tt
/-- D, which is no one's, is written -/
theorem touch {p : Addr} {o : HO} (rs : RS K σ ρ F H) (hf : F p = none) (ho : ¬ Ow ρ σ p) : RS K σ ρ F (upd H p o) := by
  refine ⟨fun a u e => ?_, rs.len, rs.dat, fun i y h => ?_, rs.inj, rs.exc⟩
  · rw [upd_ne (fun z => by rw [z, hf] at e; cases e)]
    exact rs.sub a u e
  · obtain ⟨q, e1, e2, o', e3, e4⟩ := rs.own i y h
    exact ⟨q, e1, e2, o', by rw [upd_ne (fun z => by subst z; exact ho ⟨i, y, h, e1⟩)]; exact e3, e4⟩
def cpr (vs : List Nat) (j : Nat) : Bool := !vs.contains j
theorem wipe_in {τ : L2.St} {i : Nat} (hi : i < τ.length) : ∀ {vs : List Nat}, i ∈ vs → (wipe τ vs)[i]? = some none
  | v :: vs, h => by
    unfold wipe
    by_cases q : v = i
    · subst q
      rw [List.getElem?_set_self (by rw [wipe_length]; exact hi)]
    · rw [List.getElem?_set_ne q]
      rcases List.mem_cons.mp h with z | z
      · exact absurd z.symm q
      · exact wipe_in hi z
theorem wipe_ext {τ1 τ2 : L2.St} {vs : List Nat} (hl : τ1.length = τ2.length) (h : ∀ j : Nat, cpr vs j = true → τ1[j]? = τ2[j]?) : wipe τ1 vs = wipe τ2 vs := by
  refine List.ext_getElem? fun i => ?_
  by_cases q : i ∈ vs
  · by_cases hi : i < τ1.length
    · rw [wipe_in hi q, wipe_in (by omega) q]
    · rw [List.getElem?_eq_none (by rw [wipe_length]; omega), List.getElem?_eq_none (by rw [wipe_length]; omega)]
  · rw [wipe_out' q, wipe_out' q]
    exact h i (by unfold cpr; simpa using q)
theorem opnd_of {a : R} {ρ0 : Env} {F0 : Hp} (rs : RS K σ ρ F H) (gr : Gr σ ρ0 F0 H0 σ ρ F H) (rr : RR K σ ρ F H H0 a v) : ∃ F', RS K σ ρ F' H ∧ Gr σ ρ0 F0 H0 σ ρ F' H ∧ RO K σ F' (nrm a) v := by
  cases a with
  | d x => exact ⟨F, rs, gr, rr⟩
  | s i => exact ⟨F, rs, gr, rr.1⟩
  | o x =>
    obtain ⟨F', a, b, c, _⟩ := freeze rs gr rr
    exact ⟨F', a, b, c⟩
theorem LE.comp {it : Dx (List D)} {vs : List Nat} {t : GT} (GT_len : ∀ {x : D} {ρ ρ' : Env}, t x ρ = some ρ' → ρ'.length = ρ.length) {tt : Dx Bool} {e : DE} {Q : VK} (h : LE K mg W (xLc it vs t tt e) σ H Q) :
    tLc (LI K mg W it) (LG K (cpr vs) t) (LT K mg noX tt) (LE K mg noX e) vs σ H Q := by
  obtain ⟨ρ, F, r, ρ', rs, e0, q⟩ := h
  unfold xLc bE at e0
  cases z : it ρ with
  | none => rw [z] at e0; cases e0
  | some w =>
    obtain ⟨ri, ρ1⟩ := w
    rw [z] at e0
    cases ri with
    | error x =>
      cases e0
      exact ⟨ρ, F, .error x, _, rs, z, q⟩
    | ok xs =>
      dsimp only at e0
      refine ⟨ρ, F, .ok xs, ρ1, rs, z, fun F1 H1 J rs1 gr1 gv L hL => ?_⟩
      have fL : F1 L = none := by
        cases y : F1 L with
        | none => rfl
        | some o => rw [rs1.sub _ _ y] at hL; cases hL
      have oL : ¬ Ow ρ1 σ L := fun y => (rs1.ow_some y).1 hL
      have hH1 : ∀ a, H1 a ≠ none → a ≠ L := fun a h y => by subst y; exact h hL
      refine ⟨fun i m H2 => m = xs.length - i ∧ i ≤ xs.length ∧ ∃ ρ2 F2 acc av, RS K σ ρ2 F2 H2 ∧ Gr σ ρ1 F1 H1 σ ρ2 F2 H2 ∧ H2 L = some (.lst av) ∧ F2 L = none ∧ ¬ Ow ρ2 σ L ∧ Reps K F2 acc av ∧
          bE (compL vs t tt e (xs.drop i) acc) (fun acc => rE (.o (.lst acc))) ρ2 = some (r, ρ'), ⟨xs.length, rfl, Nat.zero_le _, ρ1, F1, [], [], ?_, ?_, upd_same, fL, oL, .nil, e0⟩, ?_⟩
      · exact touch rs1 fL oL
      · exact ⟨fun a h _ => upd_ne (hH1 a h), fun a h => by rw [upd_ne (hH1 a h)]; exact h, Sub.refl, fun _ _ _ h => h, fun a h => .inl h⟩
      · rintro i m H2 ⟨rfl, hi, ρ2, F2, acc, av, rs2, gr2, hL2, fL2, oL2, ra, e2⟩
        obtain ⟨g1, g2⟩ := gv i F2 H2 gr2.mono rs2.sub
        by_cases hlt : i < xs.length
        · obtain ⟨hgo, hy⟩ := g2 xs[i] (by simp [hlt])
          rw [List.drop_eq_getElem_cons hlt] at e2
          unfold bE compL at e2
          obtain ⟨_, rsw, _, oww⟩ := wipe_rs (vs := vs) rs2 rfl rfl
          cases y : t xs[i] (wipeE ρ2 vs) with
          | none => rw [y] at e2; cases e2
          | some ρ3 =>
            rw [y] at e2
            dsimp only at e2
            refine .inr ⟨hgo, fun H5 => ∃ ρ5 F5 acc av, RS K σ ρ5 F5 H5 ∧ Gr σ ρ1 F1 H1 σ ρ5 F5 H5 ∧ H5 L = some (.lst av) ∧ F5 L = none ∧ ¬ Ow ρ5 σ L ∧ Reps K F5 acc av ∧
              bE (compL vs t tt e (xs.drop (i + 1)) acc) (fun acc => rE (.o (.lst acc))) ρ5 = some (r, ρ'), fun H5 w => ⟨xs.length - (i + 1), by omega, rfl, hlt, w⟩, fun v H3 hv => ?_⟩
            obtain ⟨F3, stp, rp⟩ := hy v H3 hv
            obtain ⟨rs3, gr3⟩ := stp.ok rsw
            have hw : Gr σ ρ2 F2 H2 (wipe σ vs) (wipeE ρ2 vs) F3 H3 := ⟨fun a h n => gr3.keep a h fun o => n (oww a o), gr3.live, gr3.mono, fun a h n => gr3.nofz a h fun o => n (oww a o), fun a o => (gr3.sub a o).imp (oww a) id⟩
            have lN : ∀ {σ4 : L2.St} {ρ4 : Env} {F4 H4 : Hp}, Gr σ ρ2 F2 H2 σ4 ρ4 F4 H4 → H4 L = some (.lst av) ∧ F4 L = none ∧ ¬ Ow ρ4 σ4 L := fun {σ4 ρ4 F4 H4} gr => by
              have h2 : H2 L ≠ none := by rw [hL2]; simp
              exact ⟨by rw [gr.keep L h2 oL2]; exact hL2, gr.nofz L h2 oL2 fL2, fun o => (gr.sub L o).elim oL2 h2⟩
            refine ⟨wipeE ρ2 vs, F3, xs[i], ρ3, rs3, rp, y, fun σ4 F4 H4 rs4 gr4 p4 => ?_⟩
            have gr24 := hw.trans gr4
            have lσ : σ4.length = (wipe σ vs).length := by rw [← rs4.len, ← rsw.len]; exact GT_len y
            have ew : wipe σ4 vs = wipe σ vs := by
              rw [wipe_ext lσ p4]
              exact wipe_ext (wipe_length _ _) fun j hj => wipe_out' (by unfold cpr at hj; simpa using hj)
            have lσ2 : σ4.length = σ.length := by rw [lσ, wipe_length]
            refine ⟨ew, ?_⟩
            have fin : ∀ {ρ7 : Env} {F7 H7 : Hp} {o : HO}, RS K σ4 ρ7 F7 H7 → Gr σ ρ2 F2 H2 σ4 ρ7 F7 H7 → RS K σ (wipeE ρ7 vs) F7 H7 ∧ Gr σ ρ1 F1 H1 σ (wipeE ρ7 vs) F7 H7 ∧ ¬ Ow (wipeE ρ7 vs) σ L := fun {ρ7 F7 H7 o} rs7 gr7 => by
              obtain ⟨a1, _, a3, _⟩ := wipe_rs (σ := σ) rs7 ew lσ2
              have gr17 := gr2.trans gr7
              exact ⟨a1, ⟨gr17.keep, gr17.live, gr17.mono, gr17.nofz, fun p hp => gr17.sub p (a3 p hp)⟩, fun hp => (lN gr7).2.2 (a3 L hp)⟩
            cases yt : tt ρ3 with
            | none => rw [yt] at e2; cases e2
            | some w =>
              obtain ⟨rb, ρ5⟩ := w
              rw [yt] at e2
              cases rb with
              | error x => cases e2
              | ok b =>
                refine ⟨ρ3, F4, .ok b, ρ5, rs4, yt, fun F5 H5 rs5 gr5 => ?_⟩
                have gr25 := gr24.trans gr5
                cases b with
                | false =>
                  refine iteF ?_
                  dsimp only at e2
                  obtain ⟨a1, a2, a3⟩ := fin (o := .lst []) rs5 gr25
                  exact ⟨wipeE ρ5 vs, F5, acc, av, a1, a2, (lN gr25).1, (lN gr25).2.1, a3, ra.sub gr25.mono, e2⟩
                | true =>
                  refine iteT ?_
                  dsimp only at e2
                  cases ye : e ρ5 with
                  | none => rw [ye] at e2; cases e2
                  | some w =>
                    obtain ⟨re, ρ6⟩ := w
                    rw [ye] at e2
                    cases re with
                    | error x => cases e2
                    | ok a =>
                      refine ⟨ρ5, F5, .ok a, ρ6, rs5, ye, fun v6 F6 H6 rs6 gr6 rr => ?_⟩
                      obtain ⟨F6', rs6', gr6', ro⟩ := opnd_of rs6 gr6 rr
                      dsimp only at e2
                      cases yd : toD ρ6 (nrm a) with
                      | none => rw [yd] at e2; cases e2
                      | some w =>
                        obtain ⟨z, ρ7⟩ := w
                        rw [yd] at e2
                        dsimp only at e2
                        obtain ⟨F7, rs7, gr7, rz⟩ := toD_ok rs6' ro yd
                        have gr27 := gr25.trans (gr6'.trans gr7)
                        by_cases hz : acc.length < sizeLine
                        · rw [if_pos hz] at e2
                          obtain ⟨a1, a2, a3⟩ := fin (o := .lst []) rs7 gr27
                          obtain ⟨b1, b2, _⟩ := lN gr27
                          have rr7 := ra.sub gr27.mono
                          refine ⟨av, b1, by rw [← ra.length]; exact hz, wipeE ρ7 vs, F7, acc ++ [z], av ++ [v6], touch a1 b2 a3, ⟨fun c h n => ?_, fun c h => ?_, a2.mono, a2.nofz, a2.sub⟩, upd_same, b2, a3, rr7.append (.cons rz .nil), e2⟩
                          · rw [upd_ne (hH1 c h)]
                            exact a2.keep c h n
                          · rw [upd_ne (hH1 c h)]
                            exact a2.live c h
                        · rw [if_neg hz] at e2
                          cases e2
        · have ei : i = xs.length := by omega
          subst ei
          rw [List.drop_length] at e2
          cases e2
          refine .inl ⟨g1 (Nat.le_refl _), ?_⟩
          refine q _ F2 H2 rs2 (gr1.trans gr2) ⟨L, rfl, ?_, oL2, fL2, .lst av, hL2, ra⟩
          cases y : H L with
          | none => rfl
          | some o => exact absurd hL (gr1.live L (by rw [y]; simp))
end
end Dn
end

section
set_option Elab.async false
set_option linter.all false
set_option maxRecDepth 100000
set_option maxHeartbeats 2000000
/-! Dn: subscripts, slices, methods, built-in functions. -/
namespace Dn
open PySem PySem.Spec L2
section
variable {K : Fg} {mg : MG} {W : WX} {pr : Nat → Bool} {σ σ1 σ' : L2.St} {ρ ρ1 ρ' : Env} {F F1 F' H H1 H' H0 : Hp} {v u : V} {f fa fb : DE} {x y : D}
/-! ### readings of any kind -/
def LX {α : Type} (K : Fg) (mg : MG) (W : WX) (f : Dx α) : L2.St → Hp → (α → Hp → Prop) → Prop := fun σ H Q => ∃ ρ F r ρ', RS K σ ρ F H ∧ f ρ = some (r, ρ') ∧
  match (r : Except Exn α) with
  | .ok b => ∀ F' H', RS K σ ρ' F' H' → Gr σ ρ F H σ ρ' F' H' → Q b H'
  | .error x => EX K mg W σ ρ F H x ρ'
theorem LX.bind {α β : Type} {t : Dx α} {k : α → Dx β} {r : Except Exn β} {G : α → Hp → Prop} (rs : RS K σ ρ F H) (e : bE t k ρ = some (r, ρ'))
    (herr : ∀ x, r = .error x → EX K mg W σ ρ F H x ρ')
    (hok : ∀ b ρ1 F1 H1, RS K σ ρ1 F1 H1 → Gr σ ρ F H σ ρ1 F1 H1 → k b ρ1 = some (r, ρ') → G b H1) : LX K mg W t σ H G := by
  unfold bE at e
  cases q : t ρ with
  | none => rw [q] at e; cases e
  | some z =>
    obtain ⟨ra, ρ1⟩ := z
    rw [q] at e
    cases ra with
    | error x =>
      cases e
      exact ⟨ρ, F, .error x, ρ', rs, q, herr x rfl⟩
    | ok a => exact ⟨ρ, F, .ok a, ρ1, rs, q, fun F' H' rs' g => hok a ρ1 F' H' rs' g e⟩
/-! ### subscripts -/
def kIx : D → D → Option R
  | .lst ds, .int i => (atI ds i).map .d
  | .tup ds, .int i => (atI ds i).map .d
  | .src ns, .int i => (atI ns i).map fun n => .d (.int n)
  | .str z, .int i => if z.length ≤ sizeLine then (atI z.cps.toList i).map fun c => .d (.str ⟨#[c]⟩) else none
  | _, _ => none
theorem Reps.atI {ds : List D} {vs : List V} (r : Reps K F ds vs) {i : Int} {d : D} (e : L2.atI ds i = some d) : ∃ v, L2.atI vs i = some v ∧ Rep K F d v := by
  unfold L2.atI at e ⊢
  rw [r.length] at e
  cases q : ixN vs.length i with
  | none => rw [q] at e; cases e
  | some j =>
    rw [q] at e
    exact r.get (show ds[j]? = some d from e)
theorem hIx : ∀ x y res v u ρ F H, RS K σ ρ F H → PK K F H x v → PK K F H y u → kIx x y = some res → ∀ Q, FinR K σ ρ F H res Q → rIx K v u H Q := by
  intro x y res v u ρ F H rs hx hy e Q q
  unfold kIx at e
  split at e
  · rename_i ds i
    obtain ⟨a, xs, rfl, ha, ra⟩ := hx.lst rs.sub
    cases hy.int
    cases z : atI ds i with
    | none => rw [z] at e; cases e
    | some d =>
      rw [z] at e
      cases e
      obtain ⟨w, e1, e2⟩ := ra.atI z
      exact .inl ⟨a, xs, i, w, rfl, rfl, SqL.of ha, e1, q.dat rs e2⟩
  · rename_i ds i
    obtain ⟨a, xs, rfl, ha, ra⟩ := hx.tup rs.sub
    cases hy.int
    cases z : atI ds i with
    | none => rw [z] at e; cases e
    | some d =>
      rw [z] at e
      cases e
      obtain ⟨w, e1, e2⟩ := ra.atI z
      exact .inr (.inl ⟨a, xs, i, w, rfl, rfl, ha, e1, q.dat rs e2⟩)
  · rename_i ns i
    obtain ⟨a, rfl, ha⟩ := hx.src rs.sub
    cases hy.int
    cases z : atI ns i with
    | none => rw [z] at e; cases e
    | some d =>
      rw [z] at e
      cases e
      refine .inl ⟨a, _, i, .int d, rfl, rfl, ha, ?_, q.dat rs (.int d)⟩
      unfold atI at z ⊢
      rw [List.length_map]
      cases y : ixN ns.length i with
      | none => rw [y] at z; cases z
      | some j =>
        rw [y] at z
        have z : ns[j]? = some d := z
        show (ns.map V.int)[j]? = some (.int d)
        rw [List.getElem?_map, z]
        rfl
  · rename_i z i
    split at e
    · rename_i hz
      cases hx.str
      cases hy.int
      cases y : atI z.cps.toList i with
      | none => rw [y] at e; cases e
      | some c =>
        rw [y] at e
        cases e
        exact .inr (.inr ⟨z, i, c, rfl, rfl, hz, y, q.dat rs (.str _)⟩)
    · cases e
  · cases e
theorem pe_ixD {X : Cx} {a b : Expr} {pos : Pos} (ha : PE X a (LE (kj J X) X.mg W fa)) (hb : PE X b (LE (kj J X) X.mg W fb)) (hs : PlainIx b := by intro _ _; rfl) : PE X (.Subscript a b pos) (LE (kj J X) X.mg W (o2 fa fb kIx)) :=
  PE.imp (pe_ix ix_seq ha hb hs) fun _ _ _ h => LE.two h fun x y res v u ρ F H rs hx hy e q => hIx x y res v u ρ F H rs hx hy e _ q
/-! ### slices -/
def eI (f : DE) : Dx (Option Int) := bE f fun a => fun ρ => match a with
  | .d (.int i) => some (.ok (some i), ρ)
  | _ => none
theorem LX.part {Q : Option Int → Hp → Prop} (h : LX K mg W (eI f) σ H Q) : tPart (LE K mg W f) σ H Q := by
  obtain ⟨ρ, F, r, ρ', rs, e, q⟩ := h
  refine LE.bind rs e (fun x hx => by subst hx; exact q) fun a v ρ1 F1 H1 rs1 g1 rr e1 => ?_
  cases a with
  | d x =>
    cases x with
    | int b =>
      cases e1
      cases rr
      exact ⟨b, rfl, q F1 H1 rs1 g1⟩
    | _ => cases e1
  | _ => cases e1
def eNo : Dx (Option Int) := rE none
theorem LX.noPart {Q : Option Int → Hp → Prop} (h : LX K mg W eNo σ H Q) : tNoPart σ H Q := by
  obtain ⟨ρ, F, r, ρ', rs, e, q⟩ := h
  cases e
  exact q F H rs Gr.refl
theorem PO.imp {X : Cx} {e : Option Expr} {t t' : TO} (h : PO X e t) (i : ∀ σ H Q, t' σ H Q → t σ H Q) : PO X e t' := ⟨fun pins s σ H Q I q => h.run pins s σ H Q I (i σ H Q q)⟩
theorem po_noD {X : Cx} : PO X none (LX (kj J X) X.mg W eNo) := PO.imp po_none fun _ _ _ h => LX.noPart h
theorem po_soD {X : Cx} {e : Expr} (h : PE X e (LE (kj J X) X.mg W f)) : PO X (some e) (LX (kj J X) X.mg W (eI f)) := PO.imp (po_some h) fun _ _ _ h => LX.part h
def cut {α : Type} (xs : List α) (lo hi : Option Int) : List α := (xs.drop (HT.sIx xs.length 0 lo)).take (HT.sIx xs.length xs.length hi - HT.sIx xs.length 0 lo)
def kSl (x : D) (lo hi : Option Int) : Option R := match x with
  | .lst ds => some (.o (.lst (cut ds lo hi)))
  | .src ns => some (.o (.lst ((cut ns lo hi).map .int)))
  | .tup ds => some (.d (.tup (cut ds lo hi)))
  | .str z => if z.length ≤ sizeLine then some (.d (.str (cutS z lo hi))) else none
  | _ => none
def rSl4 (K : PySem.W.Frag) : V → Option Int → Option Int → Hp → VK → Prop := fun x lo hi H Q => rSlL K x lo hi H Q ∨ rSlA K x lo hi H Q ∨ rSlS x lo hi H Q
theorem sl4 {X : Cx} : SlR X (rSl4 X.K) := SlR.or sl_list (SlR.or sl_tupA sl_str)
def xSl (fa : DE) (lo hi : Dx (Option Int)) : DE := bE fa fun a => bE lo fun l => bE hi fun h => fun ρ => match pk ρ (nrm a) with
  | some x => lft (kSl x l h) ρ
  | none => none
theorem Reps.cut {ds : List D} {vs : List V} (r : Reps K F ds vs) (lo hi : Option Int) : Reps K F (Dn.cut ds lo hi) (cutV vs lo hi) := by
  unfold Dn.cut cutV
  rw [r.length]
  exact (r.drop _).take _
theorem cut_whole {α : Type} {xs : List α} {lo hi : Option Int} (h : HT.sIx xs.length 0 lo = 0 ∧ HT.sIx xs.length xs.length hi = xs.length) : cut xs lo hi = xs := by
  unfold cut
  rw [h.1, h.2]
  simp
theorem hSl {lo hi : Option Int} {res : R} {Q : VK} (rs : RS K σ ρ F H) (hx : PK K F H x v) (e : kSl x lo hi = some res) (q : FinR K σ ρ F H res Q) : rSl4 K v lo hi H Q := by
  unfold kSl at e
  split at e
  · rename_i ds
    cases e
    obtain ⟨a, xs, rfl, ha, ra⟩ := hx.lst rs.sub
    exact .inl ⟨a, xs, rfl, SqL.of ha, FinR.lst q rs (ra.cut lo hi)⟩
  · rename_i ns
    cases e
    obtain ⟨a, rfl, ha⟩ := hx.src rs.sub
    refine .inl ⟨a, _, rfl, ha, FinR.lst q rs ?_⟩
    have := Reps.cut (Reps.nums (K := K) (F := F) ns) lo hi
    unfold Dn.cut at this ⊢
    rw [List.length_map] at this
    rw [List.map_take, List.map_drop]
    exact this
  · rename_i ds
    cases e
    obtain ⟨a, xs, rfl, ha, ra⟩ := hx.tup rs.sub
    refine .inr (.inl ⟨a, xs, rfl, ha, fun h => ?_, fun _ => FinR.tup q rs (ra.cut lo hi)⟩)
    have hl := ra.length
    rw [← hl] at h
    rw [cut_whole h] at q
    rcases hx with r | ⟨p, _, _, o, _, w⟩
    · exact q.dat rs r
    · cases o <;> exact w.elim
  · rename_i z
    split at e
    · rename_i hz
      cases e
      cases hx.str
      exact .inr (.inr ⟨z, rfl, hz, q.dat rs (.str _)⟩)
    · cases e
  · cases e
theorem pe_slD {X : Cx} {e : Expr} {lo hi : Option Expr} {tl th : Dx (Option Int)} {pos p2 : Pos} (he : PE X e (LE (kj J X) X.mg W fa)) (hl : PO X lo (LX (kj J X) X.mg W tl)) (hh : PO X hi (LX (kj J X) X.mg W th)) :
    PE X (.Subscript e (.Slice lo hi none p2) pos) (LE (kj J X) X.mg W (xSl fa tl th)) :=
  PE.imp (pe_slice sl4 he hl hh) fun σ H Q h => by
    obtain ⟨ρ, F, r, ρ', rs, e, q⟩ := h
    refine LE.opnd (k := fun a => bE tl fun l => bE th fun h => fun ρ => match pk ρ a with
      | some x => lft (kSl x l h) ρ
      | none => none) rs e (fun x hx => by subst hx; exact q) fun a v ρ1 F1 H1 rs1 g1 ro e1 => ?_
    refine LX.bind rs1 e1 (fun x hx => by subst hx; exact EX.trans g1 q) fun l ρ2 F2 H2 rs2 g2 e2 => ?_
    refine LX.bind rs2 e2 (fun x hx => by subst hx; exact EX.trans (g1.trans g2) q) fun h ρ3 F3 H3 rs3 g3 e3 => ?_
    cases ea : pk ρ3 a with
    | none => rw [ea] at e3; cases e3
    | some x =>
      rw [ea] at e3
      obtain ⟨res, e4, rfl, rfl⟩ := lft_some e3
      have g23 := g2.trans g3
      exact hSl rs3 (pk_ok rs3 (ro.sub g23.mono) ea) e4 fun w F' H' rs' g' rr => q w F' H' rs' (g1.trans (g23.trans g')) (RR.weak (g1.trans g23).live rr)
def kRev : D → Option R
  | .lst ds => some (.o (.lst ds.reverse))
  | .src ns => some (.o (.lst (ns.reverse.map .int)))
  | _ => none
theorem pe_revD {X : Cx} {e : Expr} {k : Nat} {p1 p2 p3 pos : Pos} (he : PE X e (LE (kj J X) X.mg W f)) : PE X (.Subscript e (.Slice none none (some (.UnaryOp .USub (.Constant (.int 1) k p1) p2)) p3) pos) (LE (kj J X) X.mg W (o1 f kRev)) :=
  PE.imp (pe_revL he) fun _ _ _ h => LE.one h fun x res v ρ F H rs hx e q => by
    unfold kRev at e
    split at e
    · cases e
      obtain ⟨a, xs, rfl, ha, ra⟩ := hx.lst rs.sub
      exact ⟨a, xs, rfl, SqL.of ha, FinR.lst q rs ra.reverse⟩
    · rename_i ns
      cases e
      obtain ⟨a, rfl, ha⟩ := hx.src rs.sub
      refine ⟨a, _, rfl, ha, FinR.lst q rs ?_⟩
      rw [List.map_reverse]
      exact (Reps.nums ns).reverse
    · cases e
/-! ### methods that change nothing -/
def tyD (T : String) : Option D → Bool
  | some (.str _) => T = "str"
  | some (.lst _) => T = "list"
  | some (.src _) => T = "list"
  | _ => false
theorem tyD_ok {T : String} (rs : RS K σ ρ F H) (h : PK K F H x v) (e : tyD T (some x) = true) : tyV K T v H := by
  cases x with
  | str z =>
    cases h.str
    have e : decide (T = "str") = true := e
    show T = "str"
    exact of_decide_eq_true e
  | lst ds =>
    obtain ⟨a, xs, rfl, ha, ra⟩ := h.lst rs.sub
    have e : decide (T = "list") = true := e
    exact .inl ⟨of_decide_eq_true e, xs, SqL.of ha⟩
  | src ns =>
    obtain ⟨a, rfl, ha⟩ := h.src rs.sub
    have e : decide (T = "list") = true := e
    exact .inl ⟨of_decide_eq_true e, _, ha⟩
  | _ => cases e
def mR (T : String) (f : DE) (fs : List DE) (k : D → List D → Option R) : DE := bE f fun a => fun ρ => if tyD T (pk ρ (nrm a)) = true then bE (eA fs) (fun as => fun ρ => match pk ρ (nrm a), pks ρ as with
  | some x, some xs => lft (k x xs) ρ
  | _, _ => none) ρ else none
theorem LE.mth {T : String} {fs : List DE} {k : D → List D → Option R} {r : V → List V → Hp → VK → Prop} {Q : VK} (h : LE K mg W (mR T f fs k) σ H Q)
    (hop : ∀ x xs res v vs ρ F H1, RS K σ ρ F H1 → PK K F H1 x v → PKs K F H1 xs vs → k x xs = some res → FinR K σ ρ F H1 res Q → r v vs H1 Q) : tBM K T r (LE K mg W f) (LA K mg W fs) σ H Q := by
  obtain ⟨ρ, F, rr, ρ', rs, e, q⟩ := h
  refine LE.opnd (k := fun a => fun ρ => if tyD T (pk ρ a) = true then bE (eA fs) (fun as => fun ρ => match pk ρ a, pks ρ as with
    | some x, some xs => lft (k x xs) ρ
    | _, _ => none) ρ else none) rs e (fun x hx => by subst hx; exact q) fun a v ρ1 F1 H1 rs1 g1 ro e1 => ?_
  split at e1
  · rename_i hty
    refine ⟨?_, ?_⟩
    · cases ea : pk ρ1 a with
      | none => rw [ea] at hty; cases hty
      | some x =>
        rw [ea] at hty
        exact tyD_ok rs1 (pk_ok rs1 ro ea) hty
    · refine LA.bind rs1 e1 (fun x hx => by subst hx; exact EX.trans g1 q) fun as vs ρ2 F2 H2 rs2 g2 ros e2 => ?_
      cases ea : pk ρ2 a with
      | none => simp [ea] at e2
      | some x =>
        cases eb : pks ρ2 as with
        | none => simp [ea, eb] at e2
        | some xs =>
          simp only [ea, eb] at e2
          obtain ⟨res, e3, rfl, rfl⟩ := lft_some e2
          exact hop x xs res v vs _ F2 H2 rs2 (pk_ok rs2 (ro.sub g2.mono) ea) (pks_ok rs2 ros eb) e3 fun w F' H' rs' g' r' => q w F' H' rs' (g1.trans (g2.trans g')) (RR.weak (g1.trans g2).live r')
  · cases e1
theorem LE.mth0 {T : String} {k : D → List D → Option R} {r : V → List V → Hp → VK → Prop} {Q : VK} (h : LE K mg W (mR T f [] k) σ H Q)
    (hop : ∀ x xs res v vs ρ F H1, RS K σ ρ F H1 → PK K F H1 x v → PKs K F H1 xs vs → k x xs = some res → FinR K σ ρ F H1 res Q → r v vs H1 Q) : tBM0 K T r (LE K mg W f) σ H Q := by
  have h2 := LE.mth h hop
  obtain ⟨ρ, F, rr, ρ', rs, e, q⟩ := h2
  refine ⟨ρ, F, rr, ρ', rs, e, ?_⟩
  cases rr with
  | error x => exact q
  | ok a =>
    refine fun v F' H' rs' g' r' => ?_
    obtain ⟨q1, q2⟩ := q v F' H' rs' g' r'
    exact ⟨q1, LA.nil q2⟩
/-! ### methods that change a list of one's own -/
def isOwnL : Option S → Bool
  | some (.o (.lst _)) => true
  | _ => false
def mO (f : DE) (fs : List DE) (k : List D → List D → Option (List D × D)) : DE := bE f fun a => fun ρ => match a with
  | .s i => if isOwnL (gt ρ i) = true then bE (eA fs) (fun as => fun ρ => match toDs ρ as with
    | some (xs, ρ1) => (match gt ρ1 i with
      | some (.o (.lst ds)) => (match k ds xs with
        | some (ys, r) => some (.ok (.d r), ρ1.set i (some (.o (.lst ys))))
        | none => none)
      | _ => none)
    | none => none) ρ else none
  | _ => none
/-- an own list changes -/
theorem own_set {i : Nat} {p : Addr} {o : HO} (rs : RS K σ ρ F H) (hs : gt ρ i = some (.o x)) (hp : σ[i]? = some (some (.ref p))) (w : OwnO K F o y) :
    RS K σ (ρ.set i (some (.o y))) F (upd H p o) ∧ Gr σ ρ F H σ (ρ.set i (some (.o y))) F (upd H p o) := by
  obtain ⟨q, e1, fp, u, e3, e4⟩ := rs.own i x hs
  rw [hp] at e1
  cases e1
  have hl := gt_lt hs
  have own' : ∀ (j : Nat) (z : D), gt (ρ.set i (some (.o y))) j = some (.o z) → (j = i ∧ z = y) ∨ (j ≠ i ∧ gt ρ j = some (.o z)) := fun j z h => by
    by_cases q : j = i
    · subst q
      rw [gt_same hl] at h
      cases h
      exact .inl ⟨rfl, rfl⟩
    · rw [gt_ne q] at h
      exact .inr ⟨q, h⟩
  have isO : ∀ (j : Nat) (z : D), gt (ρ.set i (some (.o y))) j = some (.o z) → ∃ z', gt ρ j = some (.o z') := fun j z h => by
    rcases own' j z h with ⟨rfl, _⟩ | ⟨_, h⟩
    · exact ⟨_, hs⟩
    · exact ⟨_, h⟩
  refine ⟨⟨fun a u e => ?_, by rw [List.length_set]; exact rs.len, fun j z h => ?_, fun j z h => ?_, fun j k z z' q h1 h2 h3 h4 => ?_, fun j e h => ?_⟩, ⟨fun a ha hn => ?_, fun a ha => ?_, Sub.refl, fun _ _ _ h => h, fun a ha => ?_⟩⟩
  · rw [upd_ne (fun z => by rw [z, fp] at e; cases e)]
    exact rs.sub a u e
  · by_cases q : j = i
    · subst q
      rw [gt_same hl] at h
      cases h
    · rw [gt_ne q] at h
      exact rs.dat j z h
  · rcases own' j z h with ⟨rfl, rfl⟩ | ⟨nq, h⟩
    · exact ⟨p, hp, fp, o, upd_same, w⟩
    · obtain ⟨q, q1, q2, o', q3, q4⟩ := rs.own j z h
      have nq2 : q ≠ p := fun z' => by subst z'; exact nq (rs.inj j i _ _ q h hs q1 hp)
      exact ⟨q, q1, q2, o', by rw [upd_ne nq2]; exact q3, q4⟩
  · obtain ⟨a1, b1⟩ := isO j z h1
    obtain ⟨a2, b2⟩ := isO k z' h2
    exact rs.inj j k _ _ q b1 b2 h3 h4
  · by_cases q : j = i
    · subst q
      rw [gt_same hl] at h
      cases h
    · rw [gt_ne q] at h
      exact rs.exc j e h
  · have nq : a ≠ p := fun z => by subst z; exact hn ⟨i, x, hs, hp⟩
    rw [upd_ne nq]
  · by_cases q : a = p
    · subst q
      rw [upd_same]
      exact nofun
    · rw [upd_ne q]
      exact ha
  · obtain ⟨j, z, h1, h2⟩ := ha
    obtain ⟨a1, b1⟩ := isO j z h1
    exact .inl ⟨j, a1, b1, h2⟩
theorem LE.own {fs : List DE} {k : List D → List D → Option (List D × D)} {r : V → List V → Hp → VK → Prop} {Q : VK} (h : LE K mg W (mO f fs k) σ H Q)
    (hop : ∀ ds xs ys d p us vs F H1, H1 p = some (.lst us) → Reps K F ds us → Reps K F xs vs → Sub F H1 → k ds xs = some (ys, d) → (∀ ws w, Reps K F ys ws → Rep K F d w → Q w (upd H1 p (.lst ws))) → r (.ref p) vs H1 Q) : tBM K "list" r (LE K mg W f) (LA K mg W fs) σ H Q := by
  obtain ⟨ρ, F, rr, ρ', rs, e, q⟩ := h
  refine LE.bind rs e (fun x hx => by subst hx; exact q) fun a v ρ1 F1 H1 rs1 g1 ro e1 => ?_
  cases a with
  | s i =>
    dsimp only at e1
    split at e1
    · rename_i hown
      obtain ⟨hv, _⟩ := ro
      refine ⟨?_, ?_⟩
      · cases eg : gt ρ1 i with
        | none => rw [eg] at hown; cases hown
        | some s =>
          rw [eg] at hown
          cases s with
          | d z => cases hown
          | x z => cases hown
          | o z =>
            cases z with
            | lst ds =>
              obtain ⟨p, e1, fp, u, e3, e4⟩ := rs1.own i _ eg
              rw [hv] at e1
              cases e1
              cases u with
              | lst us => exact .inl ⟨rfl, us, SqL.of e3⟩
              | _ => exact e4.elim
            | _ => cases hown
      · refine LA.bind rs1 e1 (fun x hx => by subst hx; exact EX.trans g1 q) fun as vs ρ2 F2 H2 rs2 g2 ros e2 => ?_
        cases ea : toDs ρ2 as with
        | none => rw [ea] at e2; cases e2
        | some w =>
          obtain ⟨xs, ρ3⟩ := w
          rw [ea] at e2
          dsimp only at e2
          obtain ⟨F3, rs3, g3, rx⟩ := toDs_ok rs2 ros ea
          cases eg : gt ρ3 i with
          | none => rw [eg] at e2; cases e2
          | some s =>
            rw [eg] at e2
            cases s with
            | d z => cases e2
            | x z => cases e2
            | o z =>
              cases z with
              | lst ds =>
                dsimp only at e2
                cases ek : k ds xs with
                | none => rw [ek] at e2; cases e2
                | some w =>
                  obtain ⟨ys, d⟩ := w
                  rw [ek] at e2
                  cases e2
                  obtain ⟨p, e1, fp, u, e3, e4⟩ := rs3.own i _ eg
                  rw [hv] at e1
                  cases e1
                  cases u with
                  | lst us =>
                    refine hop ds xs ys d p us vs F3 H2 e3 e4 rx rs3.sub ek fun ws w rw' rd => ?_
                    obtain ⟨a1, a2⟩ := own_set (y := .lst ys) (o := .lst ws) rs3 eg hv rw'
                    exact q w F3 _ a1 (g1.trans (g2.trans (g3.trans a2))) rd
                  | _ => exact e4.elim
              | _ => cases e2
    · cases e1
  | _ => cases e1
theorem LE.own0 {k : List D → List D → Option (List D × D)} {r : V → List V → Hp → VK → Prop} {Q : VK} (h : LE K mg W (mO f [] k) σ H Q)
    (hop : ∀ ds xs ys d p us vs F H1, H1 p = some (.lst us) → Reps K F ds us → Reps K F xs vs → Sub F H1 → k ds xs = some (ys, d) → (∀ ws w, Reps K F ys ws → Rep K F d w → Q w (upd H1 p (.lst ws))) → r (.ref p) vs H1 Q) : tBM0 K "list" r (LE K mg W f) σ H Q := by
  obtain ⟨ρ, F, rr, ρ', rs, e, q⟩ := LE.own h hop
  refine ⟨ρ, F, rr, ρ', rs, e, ?_⟩
  cases rr with
  | error x => exact q
  | ok a =>
    refine fun v F' H' rs' g' r' => ?_
    obtain ⟨q1, q2⟩ := q v F' H' rs' g' r'
    exact ⟨q1, LA.nil q2⟩
end
end Dn
end

section
set_option Elab.async false
set_option linter.all false
set_option maxRecDepth 100000
set_option maxHeartbeats 2000000
/-! Dn: built-in functions, methods of lists and texts. -/
namespace Dn
open PySem PySem.Spec L2
section
variable {K : Fg} {mg : MG} {W : WX} {pr : Nat → Bool} {σ σ1 σ' : L2.St} {ρ ρ1 ρ' : Env} {F F1 F' H H1 H' H0 : Hp} {v u : V} {f fa fb : DE} {x y : D}
theorem PKs.one {vs : List V} (h : PKs K F H [x] vs) : ∃ v, vs = [v] ∧ PK K F H x v := by
  cases h with
  | cons a b =>
    cases b
    exact ⟨_, rfl, a⟩
theorem PKs.two {vs : List V} (h : PKs K F H [x, y] vs) : ∃ v u, vs = [v, u] ∧ PK K F H x v ∧ PK K F H y u := by
  cases h with
  | cons a b =>
    obtain ⟨u, rfl, c⟩ := b.one
    exact ⟨_, _, rfl, a, c⟩
theorem PKs.zero {vs : List V} (h : PKs K F H [] vs) : vs = [] := by
  cases h
  rfl
theorem Reps.one {vs : List V} (h : Reps K F [x] vs) : ∃ v, vs = [v] ∧ Rep K F x v := by
  cases h with
  | cons a b =>
    cases b
    exact ⟨_, rfl, a⟩
theorem Reps.two {vs : List V} (h : Reps K F [x, y] vs) : ∃ v u, vs = [v, u] ∧ Rep K F x v ∧ Rep K F y u := by
  cases h with
  | cons a b =>
    obtain ⟨u, rfl, c⟩ := b.one
    exact ⟨_, _, rfl, a, c⟩
theorem Reps.zero {vs : List V} (h : Reps K F [] vs) : vs = [] := by
  cases h
  rfl
/-- a built-in function and its function on data -/
def CallF (X : Cx) (f : Value) (k : List D → Option R) : Prop := ∃ r : List V → Hp → VK → Prop, CallR X f r ∧
  ∀ {J : Lk} {σ : L2.St} xs res vs ρ F H, RS (kj J X) σ ρ F H → PKs (kj J X) F H xs vs → k xs = some res → ∀ Q, FinR (kj J X) σ ρ F H res Q → r vs H Q
section
variable {X : Cx} {e : Expr} {es : List Expr} {fs : List DE} {nm : Str} {p pos : Pos} {id : String} {T : String} {k : List D → Option R}
theorem pa_nilD : PA X [] (LA (kj J X) X.mg W []) := PA.imp pa_nil fun _ _ _ h => LA.nil h
theorem pa_consD (ha : PE X e (LE (kj J X) X.mg W f)) (hb : PA X es (LA (kj J X) X.mg W fs)) (hs : starEach (e :: es) X.env = (false, eval e X.env) :: starEach es X.env := by rfl) : PA X (e :: es) (LA (kj J X) X.mg W (f :: fs)) := PA.imp (pa_cons ha hb hs) fun _ _ _ h => LA.cons h
theorem pe_cbD (C : CallF X (.builtin id) k) (hg : Gl X nm) (hm : X.mg nm = none) (hv : bootBuiltins nm = some (.builtin id)) (ha : PA X (e :: es) (LA (kj J X) X.mg W fs)) (hn : nm ≠ "__name__" := by decide) (hdb : (nm == ("__debug__" : Str)) = false := by decide)
    (he : starEach (e :: es) X.env = (false, eval e X.env) :: starEach es X.env := by rfl) (hpl : (backTo pos (starEach es X.env)).any (·.1) = false := by rfl) : PE X (.Call (.Name nm p) (e :: es) [] pos) (LE (kj J X) X.mg W (oN fs k)) := by
  obtain ⟨r, C1, C2⟩ := C
  exact PE.imp (pe_callB C1 hg hm hv ha hn hdb he hpl) fun _ _ _ h => LA.ops h fun xs res vs ρ F H rs pk e q => C2 xs res vs ρ F H rs pk e _ q
theorem pe_ctD (C : CallF X (.type T) k) (hg : Gl X nm) (hm : X.mg nm = none) (hv : bootBuiltins nm = some (.type T)) (ha : PA X (e :: es) (LA (kj J X) X.mg W fs)) (hn : nm ≠ "__name__" := by decide) (hdb : (nm == ("__debug__" : Str)) = false := by decide)
    (he : starEach (e :: es) X.env = (false, eval e X.env) :: starEach es X.env := by rfl) (hpl : (backTo pos (starEach es X.env)).any (·.1) = false := by rfl) : PE X (.Call (.Name nm p) (e :: es) [] pos) (LE (kj J X) X.mg W (oN fs k)) := by
  obtain ⟨r, C1, C2⟩ := C
  exact PE.imp (pe_callTy C1 hg hm hv ha hn hdb he hpl) fun _ _ _ h => LA.ops h fun xs res vs ρ F H rs pk e q => C2 xs res vs ρ F H rs pk e _ q
end
theorem b_len : bootBuiltins "len" = some (.builtin "len") := by decide +kernel
theorem b_abs : bootBuiltins "abs" = some (.builtin "abs") := by decide +kernel
theorem b_max : bootBuiltins "max" = some (.builtin "max") := by decide +kernel
theorem b_min : bootBuiltins "min" = some (.builtin "min") := by decide +kernel
theorem b_sum : bootBuiltins "sum" = some (.builtin "sum") := by decide +kernel
theorem b_any : bootBuiltins "any" = some (.builtin "any") := by decide +kernel
theorem b_all : bootBuiltins "all" = some (.builtin "all") := by decide +kernel
theorem b_repr : bootBuiltins "repr" = some (.builtin "repr") := by decide +kernel
theorem b_sorted : bootBuiltins "sorted" = some (.builtin "sorted") := by decide +kernel
theorem b_isinstance : bootBuiltins "isinstance" = some (.builtin "isinstance") := by decide +kernel
theorem b_int : bootBuiltins "int" = some (.type "int") := by decide +kernel
theorem b_bool : bootBuiltins "bool" = some (.type "bool") := by decide +kernel
theorem b_str : bootBuiltins "str" = some (.type "str") := by decide +kernel
theorem b_list : bootBuiltins "list" = some (.type "list") := by decide +kernel
theorem b_tuple : bootBuiltins "tuple" = some (.type "tuple") := by decide +kernel
/-! len, abs, max, min, int, bool, str -/
def kLen : List D → Option R
  | [.lst ds] => some (.d (.int (ds.length : Nat)))
  | [.tup ds] => some (.d (.int (ds.length : Nat)))
  | [.src ns] => some (.d (.int (ns.length : Nat)))
  | [.str z] => if z.length ≤ sizeLine then some (.d (.int (z.length : Nat))) else none
  | _ => none
section
variable {X : Cx}
theorem cf_len : CallF X (.builtin "len") kLen := ⟨_, call_len, by
  intro J σ xs res vs ρ F H rs pk e Q q
  unfold kLen at e
  split at e
  · cases e
    obtain ⟨v, rfl, h⟩ := pk.one
    obtain ⟨a, ys, rfl, ha, ra⟩ := h.lst rs.sub
    exact ⟨_, _, rfl, .inl ⟨ys, SqL.of ha, ra.length⟩, q.dat rs (.int _)⟩
  · cases e
    obtain ⟨v, rfl, h⟩ := pk.one
    obtain ⟨a, ys, rfl, ha, ra⟩ := h.tup rs.sub
    exact ⟨_, _, rfl, .inr ⟨ys, ha, ra.length⟩, q.dat rs (.int _)⟩
  · cases e
    obtain ⟨v, rfl, h⟩ := pk.one
    obtain ⟨a, rfl, ha⟩ := h.src rs.sub
    exact ⟨_, _, rfl, .inl ⟨_, ha, by rw [List.length_map]⟩, q.dat rs (.int _)⟩
  · split at e
    · cases e
      obtain ⟨v, rfl, h⟩ := pk.one
      cases h.str
      exact ⟨_, _, rfl, ⟨by assumption, rfl⟩, q.dat rs (.int _)⟩
    · cases e
  · cases e⟩
def kAbs : List D → Option R
  | [.int i] => some (.d (.int (if i < 0 then -i else i)))
  | _ => none
theorem cf_abs : CallF X (.builtin "abs") kAbs := ⟨_, call_abs, by
  intro J σ xs res vs ρ F H rs pk e Q q
  unfold kAbs at e
  split at e
  · cases e
    obtain ⟨v, rfl, h⟩ := pk.one
    cases h.int
    exact ⟨_, rfl, q.dat rs (.int _)⟩
  · cases e⟩
def kMax2 : List D → Option R
  | [.int i, .int j] => some (.d (.int (if j > i then j else i)))
  | _ => none
theorem cf_max2 (hc : X.calm = true) : CallF X (.builtin "max") kMax2 := ⟨_, call_max2 hc, by
  intro J σ xs res vs ρ F H rs pk e Q q
  unfold kMax2 at e
  split at e
  · cases e
    obtain ⟨v, u, rfl, h1, h2⟩ := pk.two
    cases h1.int
    cases h2.int
    exact ⟨_, _, rfl, q.dat rs (.int _)⟩
  · cases e⟩
def kMin2 : List D → Option R
  | [.int i, .int j] => some (.d (.int (if j < i then j else i)))
  | _ => none
theorem cf_min2 (hc : X.calm = true) : CallF X (.builtin "min") kMin2 := ⟨_, call_min2 hc, by
  intro J σ xs res vs ρ F H rs pk e Q q
  unfold kMin2 at e
  split at e
  · cases e
    obtain ⟨v, u, rfl, h1, h2⟩ := pk.two
    cases h1.int
    cases h2.int
    exact ⟨_, _, rfl, q.dat rs (.int _)⟩
  · cases e⟩
def kInt : List D → Option R
  | [.int i] => some (.d (.int i))
  | [.bl b] => some (.d (.int (if b then 1 else 0)))
  | [.str z] => if z.length ≤ 640 then (PySem.intText? z).map fun n => .d (.int n) else none
  | _ => none
theorem cf_int : CallF X (.type "int") kInt := ⟨_, CallR.or call_int1 call_int_str, by
  intro J σ xs res vs ρ F H rs pk e Q q
  unfold kInt at e
  split at e
  · cases e
    obtain ⟨v, rfl, h⟩ := pk.one
    cases h.int
    exact .inl (.inl ⟨_, rfl, q.dat rs (.int _)⟩)
  · cases e
    obtain ⟨v, rfl, h⟩ := pk.one
    cases h.bl
    exact .inl (.inr ⟨_, rfl, q.dat rs (.int _)⟩)
  · rename_i z
    split at e
    · obtain ⟨v, rfl, h⟩ := pk.one
      cases h.str
      cases ez : PySem.intText? z with
      | none => rw [ez] at e; cases e
      | some n =>
        rw [ez] at e
        cases e
        exact .inr ⟨z, n, rfl, ez, by assumption, q.dat rs (.int _)⟩
    · cases e
  · cases e⟩
def kBool : List D → Option R
  | [.int i] => some (.d (.bl (i != 0)))
  | [.bl b] => some (.d (.bl b))
  | _ => none
theorem cf_bool : CallF X (.type "bool") kBool := ⟨_, call_bool1, by
  intro J σ xs res vs ρ F H rs pk e Q q
  unfold kBool at e
  split at e
  · cases e
    obtain ⟨v, rfl, h⟩ := pk.one
    cases h.int
    exact (.inl ⟨_, rfl, q.dat rs (.bl _)⟩)
  · cases e
    obtain ⟨v, rfl, h⟩ := pk.one
    cases h.bl
    exact (.inr ⟨_, rfl, q.dat rs (.bl _)⟩)
  · cases e⟩
def kStr : List D → Option R
  | [.int i] => if i.natAbs.log2 < 1920 then some (.d (.str (toString i))) else none
  | _ => none
theorem cf_str : CallF X (.type "str") kStr := ⟨_, call_str_int, by
  intro J σ xs res vs ρ F H rs pk e Q q
  unfold kStr at e
  split at e
  · split at e
    · cases e
      obtain ⟨v, rfl, h⟩ := pk.one
      cases h.int
      exact ⟨_, rfl, by assumption, q.dat rs (.str _)⟩
    · cases e
  · cases e⟩
/-! list, tuple -/
def kList : List D → Option R
  | [.lst ds] => some (.o (.lst ds))
  | [.tup ds] => some (.o (.lst ds))
  | [.src ns] => some (.o (.lst (ns.map .int)))
  | _ => none
theorem cf_list : CallF X (.type "list") kList := ⟨_, call_list_of, by
  intro J σ xs res vs ρ F H rs pk e Q q
  unfold kList at e
  split at e
  · cases e
    obtain ⟨v, rfl, h⟩ := pk.one
    obtain ⟨a, ys, rfl, ha, ra⟩ := h.lst rs.sub
    exact ⟨_, _, rfl, .inl (SqL.of ha), FinR.lst q rs ra⟩
  · cases e
    obtain ⟨v, rfl, h⟩ := pk.one
    obtain ⟨a, ys, rfl, ha, ra⟩ := h.tup rs.sub
    exact ⟨_, _, rfl, .inr ha, FinR.lst q rs ra⟩
  · cases e
    obtain ⟨v, rfl, h⟩ := pk.one
    obtain ⟨a, rfl, ha⟩ := h.src rs.sub
    exact ⟨_, _, rfl, .inl ha, FinR.lst q rs (Reps.nums _)⟩
  · cases e⟩
def kTuple : List D → Option R
  | [.lst ds] => some (.d (.tup ds))
  | [.tup ds] => some (.d (.tup ds))
  | [.src ns] => some (.d (.tup (ns.map .int)))
  | _ => none
theorem cf_tuple : CallF X (.type "tuple") kTuple := ⟨_, call_tuple_of, by
  intro J σ xs res vs ρ F H rs pk e Q q
  unfold kTuple at e
  split at e
  · cases e
    obtain ⟨v, rfl, h⟩ := pk.one
    obtain ⟨a, ys, rfl, ha, ra⟩ := h.lst rs.sub
    exact ⟨_, _, rfl, .inl ⟨SqL.of ha, FinR.tup q rs ra⟩⟩
  · cases e
    obtain ⟨v, rfl, h⟩ := pk.one
    obtain ⟨a, ys, rfl, ha, ra⟩ := h.tup rs.sub
    refine ⟨_, _, rfl, .inr ⟨ha, q.dat rs ?_⟩⟩
    rcases h with r | ⟨p, _, _, o, _, w⟩
    · exact r
    · cases o <;> exact w.elim
  · cases e
    obtain ⟨v, rfl, h⟩ := pk.one
    obtain ⟨a, rfl, ha⟩ := h.src rs.sub
    exact ⟨_, _, rfl, .inl ⟨ha, FinR.tup q rs (Reps.nums _)⟩⟩
  · cases e⟩
/-! sum, any, all -/
def intsOf : List D → Option (List Int)
  | [] => some []
  | .int i :: r => (intsOf r).map (i :: ·)
  | _ => none
def blsOf : List D → Option (List Bool)
  | [] => some []
  | .bl i :: r => (blsOf r).map (i :: ·)
  | _ => none
def strsOf : List D → Option (List Str)
  | [] => some []
  | .str i :: r => (strsOf r).map (i :: ·)
  | _ => none
theorem Reps.intsOf : ∀ {ds : List D} {vs : List V} {ns : List Int}, Reps K F ds vs → Dn.intsOf ds = some ns → vs = ns.map V.int
  | _, _, ns, .nil, e => by
    cases e
    rfl
  | d :: ds, v :: vs, ns, .cons a b, e => by
    cases a with
    | int i =>
      have e : (Dn.intsOf ds).map (i :: ·) = some ns := e
      cases q : Dn.intsOf ds with
      | none => rw [q] at e; cases e
      | some ms =>
        rw [q] at e
        cases e
        rw [Reps.intsOf b q]
        rfl
    | _ => cases e
theorem Reps.blsOf : ∀ {ds : List D} {vs : List V} {ns : List Bool}, Reps K F ds vs → Dn.blsOf ds = some ns → vs = ns.map V.bl
  | _, _, ns, .nil, e => by
    cases e
    rfl
  | d :: ds, v :: vs, ns, .cons a b, e => by
    cases a with
    | bl i =>
      have e : (Dn.blsOf ds).map (i :: ·) = some ns := e
      cases q : Dn.blsOf ds with
      | none => rw [q] at e; cases e
      | some ms =>
        rw [q] at e
        cases e
        rw [Reps.blsOf b q]
        rfl
    | _ => cases e
theorem Reps.strsOf : ∀ {ds : List D} {vs : List V} {ns : List Str}, Reps K F ds vs → Dn.strsOf ds = some ns → vs = ns.map V.str
  | _, _, ns, .nil, e => by
    cases e
    rfl
  | d :: ds, v :: vs, ns, .cons a b, e => by
    cases a with
    | str i =>
      have e : (Dn.strsOf ds).map (i :: ·) = some ns := e
      cases q : Dn.strsOf ds with
      | none => rw [q] at e; cases e
      | some ms =>
        rw [q] at e
        cases e
        rw [Reps.strsOf b q]
        rfl
    | _ => cases e
def kSum : List D → Option R
  | [.lst ds] => (intsOf ds).map fun ns => .d (.int ns.sum)
  | [.src ns] => some (.d (.int ns.sum))
  | _ => none
theorem cf_sum (hc : X.calm = true) : CallF X (.builtin "sum") kSum := ⟨_, cr_sum hc, by
  intro J σ xs res vs ρ F H rs pk e Q q
  unfold kSum at e
  split at e
  · rename_i ds
    obtain ⟨v, rfl, h⟩ := pk.one
    obtain ⟨a, ys, rfl, ha, ra⟩ := h.lst rs.sub
    cases z : intsOf ds with
    | none => rw [z] at e; cases e
    | some ns =>
      rw [z] at e
      cases e
      have := ra.intsOf z
      subst this
      exact ⟨_, _, rfl, SqL.of ha, q.dat rs (.int _)⟩
  · cases e
    obtain ⟨v, rfl, h⟩ := pk.one
    obtain ⟨a, rfl, ha⟩ := h.src rs.sub
    exact ⟨_, _, rfl, ha, q.dat rs (.int _)⟩
  · cases e⟩
def kAny : List D → Option R
  | [.lst ds] => (blsOf ds).map fun ns => .d (.bl (ns.any id))
  | _ => none
theorem cf_any (hc : X.calm = true) : CallF X (.builtin "any") kAny := ⟨_, cr_any hc, by
  intro J σ xs res vs ρ F H rs pk e Q q
  unfold kAny at e
  split at e
  · rename_i ds
    obtain ⟨v, rfl, h⟩ := pk.one
    obtain ⟨a, ys, rfl, ha, ra⟩ := h.lst rs.sub
    cases z : blsOf ds with
    | none => rw [z] at e; cases e
    | some ns =>
      rw [z] at e
      cases e
      have := ra.blsOf z
      subst this
      exact ⟨_, _, rfl, SqL.of ha, q.dat rs (.bl _)⟩
  · cases e⟩
def kAll : List D → Option R
  | [.lst ds] => (blsOf ds).map fun ns => .d (.bl (ns.all id))
  | _ => none
theorem cf_all (hc : X.calm = true) : CallF X (.builtin "all") kAll := ⟨_, cr_all hc, by
  intro J σ xs res vs ρ F H rs pk e Q q
  unfold kAll at e
  split at e
  · rename_i ds
    obtain ⟨v, rfl, h⟩ := pk.one
    obtain ⟨a, ys, rfl, ha, ra⟩ := h.lst rs.sub
    cases z : blsOf ds with
    | none => rw [z] at e; cases e
    | some ns =>
      rw [z] at e
      cases e
      have := ra.blsOf z
      subst this
      exact ⟨_, _, rfl, SqL.of ha, q.dat rs (.bl _)⟩
  · cases e⟩
/-! repr -/
theorem cr_repr (hG : X.A.guards = some []) (hu : X.A.units + 200 < cLine) : CallR X (.builtin "repr") (fun xs H Q => ∃ v d, xs = [v] ∧ Dp X.K H v d ∧ d.showable = true ∧ d.hasDict = false ∧ d.depth < 100 ∧ d.shown.length ≤ sizeLine ∧ Q (.str d.shown) H) := by
  intro pins s σ H xs us Q I rv h
  obtain ⟨v, d, rfl, hd, hs, hn, hp, hz, q⟩ := h
  obtain ⟨u, rfl, r⟩ := rv.one
  have fin : ∀ (t tk : Nat), EP X pins σ Q (.str d.shown t) { s with toks := tk } := fun t tk => ⟨.str d.shown, H, I.tok _, ⟨t, rfl⟩, q⟩
  cases hd with
  | non =>
    cases r
    exact PySem.P.repr_of_none (fin _ _)
  | bl b =>
    cases r
    exact PySem.P.repr_of_bool (fin _ _)
  | int i =>
    obtain ⟨t, rfl⟩ := r
    exact PySem.P.repr_of_int (by simpa [PyData.showable] using hs) (fin _ _)
  | str z =>
    obtain ⟨t, rfl⟩ := r
    exact PySem.P.repr_of_str (fin _ _) hz
  | lst h1 h2 =>
    cases r
    obtain ⟨as, rd⟩ := Dp.reads I _ _ _ (.lst h1 h2) rfl
    exact PySem.repr_of_reads' rd hs (PyData.noDict_hsm hn) hG (by omega) (fun _ _ e => e) (fun h' t tk k => ⟨.str _, H, I.kept k, ⟨t, rfl⟩, q⟩) hz
  | tup h1 h2 =>
    cases r
    obtain ⟨as, rd⟩ := Dp.reads I _ _ _ (.tup h1 h2) rfl
    exact PySem.repr_of_reads' rd hs (PyData.noDict_hsm hn) hG (by omega) (fun _ _ e => e) (fun h' t tk k => ⟨.str _, H, I.kept k, ⟨t, rfl⟩, q⟩) hz
def kRepr : List D → Option R
  | [x] => if isPy x = true ∧ (toPy x).showable = true ∧ (toPy x).hasDict = false ∧ (toPy x).depth < 100 ∧ (toPy x).shown.length ≤ sizeLine then some (.d (.str (toPy x).shown)) else none
  | _ => none
theorem cf_repr (hG : X.A.guards = some []) (hu : X.A.units + 200 < cLine) : CallF X (.builtin "repr") kRepr := ⟨_, cr_repr hG hu, by
  intro J σ xs res vs ρ F H rs pk e Q q
  unfold kRepr at e
  split at e
  · split at e
    · rename_i c
      cases e
      obtain ⟨v, rfl, h⟩ := pk.one
      exact ⟨v, _, rfl, h.dp rs.sub c.1, c.2.1, c.2.2.1, c.2.2.2.1, c.2.2.2.2, q.dat rs (.str _)⟩
    · cases e
  · cases e⟩
end
end
end Dn
end

section
set_option Elab.async false
set_option linter.all false
set_option maxRecDepth 100000
set_option maxHeartbeats 4000000
/-! Dn: products; methods of lists and texts. -/
namespace Dn
open PySem PySem.Spec PyProof.Rows L2
theorem tuple_mulSame (l : Addr) (items : Array Value) (n : Nat) (dd : Option Addr) (sl : Array (Option Value)) (x : Int) (u : Tok) (c0 : (decide (x < -(2 ^ 63)) || decide (x ≥ 2 ^ 63)) = false) (c1 : (items.isEmpty || x == 1) = true) :
    Meets (Builtin.«tuple.__mul__» ⟨[.ref l, .int x u], []⟩) (fun _ R s => s.heap.get? l = some { cls := .type "tuple", dict := dd, data := .seq items n, slots := sl } ∧
      R (.ok (.ret (Value.ref l))) s) :=
  .of_wp fun prog w A R s h => by
    obtain ⟨hp, g, d, tk, os⟩ := s
    obtain ⟨hl, h⟩ := h
    have f1 := AutoSeq1.idx_int
    wp_walk using wpAny_loadPart' hl
    repeat (first
      | (refine wpAny_ite_false (decide_eq_false (by rw [c0]; exact Bool.false_ne_true)) ?_; wp_walk using wpAny_loadPart' hl)
      | (refine wpAny_ite_true (decide_eq_true c1) ?_; wp_walk using wpAny_loadPart' hl))
    exact ⟨_, rfl, h⟩
theorem tuple_mulNone (l : Addr) (items : Array Value) (n : Nat) (dd : Option Addr) (sl : Array (Option Value)) (x : Int) (u : Tok) (c0 : (decide (x < -(2 ^ 63)) || decide (x ≥ 2 ^ 63)) = false) (c1 : (items.isEmpty || x == 1) = false) (c2 : (decide (x ≤ 0) || items.isEmpty) = true) :
    Meets (Builtin.«tuple.__mul__» ⟨[.ref l, .int x u], []⟩) (fun _ R s => s.heap.get? l = some { cls := .type "tuple", dict := dd, data := .seq items n, slots := sl } ∧
      R (.ok (.ret (Value.ref s.heap.objs.size))) { s with heap := s.heap.push { cls := Value.type "tuple", data := Data.seq #[] }, toks := s.toks }) :=
  .of_wp fun prog w A R s h => by
    obtain ⟨hp, g, d, tk, os⟩ := s
    obtain ⟨hl, h⟩ := h
    have f1 := AutoSeq1.idx_int
    wp_walk using wpAny_loadPart' hl
    repeat (first
      | (refine wpAny_ite_false (decide_eq_false (by rw [c0]; exact Bool.false_ne_true)) ?_; wp_walk using wpAny_loadPart' hl)
      | (refine wpAny_ite_false (decide_eq_false (by rw [c1]; exact Bool.false_ne_true)) ?_; wp_walk using wpAny_loadPart' hl)
      | (refine wpAny_ite_true (decide_eq_true c2) ?_; wp_walk using wpAny_loadPart' hl))
    exact ⟨_, rfl, h⟩
section
variable {X : Cx}
/-- t * k, k at most 1 or t empty -/
def rRepT1 (K : PySem.W.Frag) : R2 := fun x y H Q => ∃ l k xs, x = .ref l ∧ y = .int k ∧ SqT K H l xs ∧ -(2 ^ 63) ≤ k ∧ k < 2 ^ 63 ∧ (xs = [] ∨ k = 1 → Q (.ref l) H) ∧ (xs ≠ [] → k ≤ 0 → ∀ p, H p = none → Q (.ref p) (upd H p (.tup []))) ∧ (xs = [] ∨ k ≤ 1)
theorem op_repT1 : OpR X (binaryOp .Mult) (rRepT1 X.K) := by
  intro pins s σ H x y v u Q I rx ry h
  obtain ⟨l, k, xs, rfl, rfl, hT, h1, h2, q1, q2, hc⟩ := h
  cases rx
  obtain ⟨t, rfl⟩ := ry
  obtain ⟨its, r, ⟨⟨cls, dd, data, sl⟩, ho, hcl, n, hd⟩, hs⟩ := I.tuple hT
  simp only at hcl hd
  subst hcl hd
  have c0 : (decide (k < -(2 ^ 63)) || decide (k ≥ 2 ^ 63)) = false := by
    rw [decide_eq_false (by omega), decide_eq_false (by omega)] <;> rfl
  have hem : its.toArray.isEmpty = decide (xs = []) := by
    cases r with
    | nil => rfl
    | cons a b => rfl
  by_cases c : xs = [] ∨ k = 1
  · have c1 : (its.toArray.isEmpty || k == 1) = true := by
      rw [hem]
      rcases c with c | c
      · simp [c]
      · simp [c]
    exact wpAny_binaryOp_repeat_ref (T := "tuple") (U := "int") (by decide) ⟨_, ho, rfl⟩ (fun s' => typeIs_int s' k t) noFill_tuple_mul F.fills_int_mul F.slot_int_rmul repeat_tuple F.slot_int_index.lookup
      (call_meets F.slot_int_rmul (typeIs_int s k t) F.entry_int_rmul (F.args_int_rmul_2 _ _) (int_rmul_tuple k t l its.toArray n dd sl)
        ⟨ho, rfl, ⟨_, ho, rfl⟩, call_meets F.slot_tuple_mul ⟨_, ho, rfl⟩ F.entry_tuple_mul (F.args_tuple_mul_2 _ _) (tuple_mulSame l its.toArray n dd sl k t c0 c1) ⟨ho, .ref l, H, I, rfl, q1 c⟩⟩)
  · have hx : xs ≠ [] := fun z => c (.inl z)
    have hk1 : k ≠ 1 := fun z => c (.inr z)
    have hk : k ≤ 0 := by
      rcases hc with z | z
      · exact absurd z hx
      · omega
    have c1 : (its.toArray.isEmpty || k == 1) = false := by
      rw [hem, decide_eq_false hx, Bool.false_or]
      exact beq_eq_false_iff_ne.mpr hk1
    have c2 : (decide (k ≤ 0) || its.toArray.isEmpty) = true := by
      rw [decide_eq_true hk]
      rfl
    refine wpAny_binaryOp_repeat_ref (T := "tuple") (U := "int") (by decide) ⟨_, ho, rfl⟩ (fun s' => typeIs_int s' k t) noFill_tuple_mul F.fills_int_mul F.slot_int_rmul repeat_tuple F.slot_int_index.lookup
      (call_meets F.slot_int_rmul (typeIs_int s k t) F.entry_int_rmul (F.args_int_rmul_2 _ _) (int_rmul_tuple k t l its.toArray n dd sl)
        ⟨ho, rfl, ⟨_, ho, rfl⟩, call_meets F.slot_tuple_mul ⟨_, ho, rfl⟩ F.entry_tuple_mul (F.args_tuple_mul_2 _ _) (tuple_mulNone l its.toArray n dd sl k t c0 c1 c2) ⟨ho, ?_⟩⟩)
    refine ⟨.ref s.heap.objs.size, _, I.laid (t' := s.toks) (o := .tup []) (fun b ob q => Heap.get?_push_of_some _ q) (Nat.le_refl _) ?_, rfl, q2 hx hk _ (I.hok.fresh (Nat.le_refl _))⟩
    exact ⟨Nat.zero_le _, _, .nil, IsTup.new _ _⟩
/-- text * k -/
def repS (z : Str) (k : Nat) : Str := ⟨(List.replicate k z.cps).foldl (· ++ ·) #[]⟩
theorem repS_one (z : Str) : repS z 1 = z := by
  unfold repS
  simp
theorem repS_empty {z : Str} (h : z.length = 0) : ∀ k, repS z k = z := by
  obtain ⟨c⟩ := z
  have hc : c = #[] := by
    have h : c.size = 0 := h
    simpa using h
  subst hc
  intro k
  unfold repS
  induction k with
  | zero => rfl
  | succ k ih => rw [List.replicate_succ, List.foldl_cons]; exact ih
theorem foldl_size (z : Array Nat) : ∀ (k : Nat) (acc : Array Nat), ((List.replicate k z).foldl (· ++ ·) acc).size = acc.size + z.size * k
  | 0, acc => by simp
  | k + 1, acc => by
    rw [List.replicate_succ, List.foldl_cons, foldl_size z k, Array.size_append, Nat.mul_succ]
    omega
theorem repS_length (z : Str) (k : Nat) : (repS z k).length = z.length * k := by
  unfold repS
  show ((List.replicate k z.cps).foldl (· ++ ·) #[]).size = _
  rw [foldl_size]
  show 0 + z.cps.size * k = z.cps.size * k
  omega
theorem op_mulS : OpR X (binaryOp .Mult) (fun x y H Q => ∃ z k, x = .str z ∧ y = .int k ∧ -(2 ^ 63) ≤ k ∧ k < 2 ^ 63 ∧ z.length * k.toNat ≤ sizeLine ∧ z.length ≤ sizeLine ∧ Q (.str (repS z k.toNat)) H) := by
  intro pins s σ H x y v u Q I rx ry h
  obtain ⟨z, k, rfl, rfl, h1, h2, hz, hz1, q⟩ := h
  obtain ⟨t, rfl⟩ := rx
  obtain ⟨t', rfl⟩ := ry
  have fin : ∀ (y : Str) (a b : Nat), y = repS z k.toNat → EP X pins σ Q (.str y a) { s with toks := b } := fun y a b e => ⟨.str y, H, I.tok _, ⟨a, rfl⟩, by rw [e]; exact q⟩
  have c0 : (decide (k < -(2 ^ 63 : Int)) || decide (k ≥ 2 ^ 63)) = false := by
    rw [decide_eq_false (by omega), decide_eq_false (by omega)] <;> rfl
  have hS : sizeLine = 16777216 := rfl
  refine PySem.P.mul_str c0 (fun hk _ => ?_) (fun hk _ => ?_) ?_
  · intro hgt
    have hk0 : 0 < k := by omega
    have e : ((z.length : Nat) : Int) * k ≤ 16777216 := by
      have : (z.length : Int) * (k.toNat : Int) ≤ 16777216 := by
        have h5 : z.length * k.toNat ≤ 16777216 := hz
        rw [← Int.natCast_mul]
        exact Int.ofNat_le.mpr h5
      rwa [Int.toNat_of_nonneg (by omega)] at this
    have := (Int.lt_iff_add_one_le.mp hgt)
    have h3 : ((2 ^ 63 - 1) / k + 1) * k ≤ (z.length : Int) * k := Int.mul_le_mul_of_nonneg_right this (by omega)
    have h4 : (2 ^ 63 - 1 : Int) < ((2 ^ 63 - 1) / k + 1) * k := Int.lt_ediv_add_one_mul_self _ hk0
    omega
  · unfold Builtin.Str.tooLong
    exact decide_eq_false (by omega)
  · by_cases hk : k < 1
    · rw [if_pos hk]
      refine ⟨by rw [hS]; exact Nat.zero_le _, fin _ _ _ ?_⟩
      have : k.toNat = 0 := by omega
      rw [this]
      rfl
    · rw [if_neg hk]
      by_cases hc : (k == 1 || z.length == 0) = true
      · rw [if_pos hc]
        refine fin z t s.toks ?_
        rw [Bool.or_eq_true] at hc
        rcases hc with hc | hc
        · have : k = 1 := eq_of_beq hc
          subst this
          exact (repS_one z).symm
        · exact (repS_empty (eq_of_beq hc) _).symm
      · rw [if_neg hc]
        refine ⟨?_, fin _ _ _ rfl⟩
        show (repS z k.toNat).length ≤ sizeLine
        rw [repS_length]
        exact hz
end
section
variable {K : Fg} {mg : MG} {W : WX} {pr : Nat → Bool} {σ σ1 σ' : L2.St} {ρ ρ1 ρ' : Env} {F F1 F' H H1 H' H0 : Hp} {v u : V} {f fa fb : DE} {x y : D}
theorem Reps.flat_rep {ds : List D} {vs : List V} (r : Reps K F ds vs) : ∀ k : Nat, Reps K F (List.replicate k ds).flatten (List.replicate k vs).flatten
  | 0 => .nil
  | k + 1 => by
    rw [List.replicate_succ, List.replicate_succ, List.flatten_cons, List.flatten_cons]
    exact r.append (Reps.flat_rep r k)
def smallI (i : Int) : Bool := decide (-18446744073709551616 < i ∧ i < 18446744073709551616)
def kMul : D → D → Option R
  | .int i, .int j => if smallI i || smallI j then some (.d (.int (i * j))) else none
  | .str z, .int k => if -9223372036854775808 ≤ k ∧ k < 9223372036854775808 ∧ z.length * k.toNat ≤ sizeLine ∧ z.length ≤ sizeLine then some (.d (.str (repS z k.toNat))) else none
  | .tup ds, .int k => if -9223372036854775808 ≤ k ∧ k ≤ 1000 ∧ ds.length ≤ 1000 then some (.d (.tup (List.replicate k.toNat ds).flatten)) else none
  | .lst ds, .int k => if -9223372036854775808 ≤ k ∧ k < 9223372036854775808 ∧ ds.length * k.toNat ≤ sizeLine then some (.o (.lst (List.replicate k.toNat ds).flatten)) else none
  | _, _ => none
theorem flat_nil {α : Type} : ∀ k : Nat, (List.replicate k ([] : List α)).flatten = []
  | 0 => rfl
  | k + 1 => by
    rw [List.replicate_succ, List.flatten_cons, flat_nil k]
    rfl
theorem pe_mulD {X : Cx} {a b : Expr} {pos : Pos} (ha : PE X a (LE (kj J X) X.mg W fa)) (hb : PE X b (LE (kj J X) X.mg W fb)) : PE X (.BinOp a .Mult b pos) (LE (kj J X) X.mg W (o2 fa fb kMul)) :=
  PE.imp (pe_op (OpR.or op_mul (OpR.or op_mulS (OpR.or op_repT (OpR.or op_repT1 op_rep)))) ha hb) fun _ _ _ h => LE.two h fun x y res v u ρ F H rs hx hy e q => by
    unfold kMul at e
    split at e
    · split at e
      · rename_i hc
        cases e
        cases hx.int
        cases hy.int
        refine .inl ⟨_, _, rfl, rfl, ?_, q.dat rs (.int _)⟩
        unfold smallI at hc
        rw [Bool.or_eq_true] at hc
        rcases hc with hc | hc
        · have := of_decide_eq_true hc
          exact .inl ⟨by omega, by omega⟩
        · have := of_decide_eq_true hc
          exact .inr ⟨by omega, by omega⟩
      · cases e
    · split at e
      · rename_i hc
        cases e
        cases hx.str
        cases hy.int
        exact .inr (.inl ⟨_, _, rfl, rfl, by have := hc.1; omega, by have := hc.2.1; omega, hc.2.2.1, hc.2.2.2, q.dat rs (.str _)⟩)
      · cases e
    · rename_i ds k
      split at e
      · rename_i hc
        cases e
        have hx' := hx.tupR
        obtain ⟨a, xs, rfl, ha, ra⟩ := hx.tup rs.sub
        cases hy.int
        have b1 : -(2 ^ 63) ≤ k := by have := hc.1; omega
        have b2 : k < 2 ^ 63 := by have := hc.2.1; omega
        by_cases hz : xs = [] ∨ k ≤ 1
        · refine .inr (.inr (.inr (.inl ⟨a, k, xs, rfl, rfl, ha, b1, b2, fun c => ?_, fun _ c => ?_, hz⟩)))
          · have e1 : (List.replicate k.toNat ds).flatten = ds := by
              rcases c with c | c
              · subst c
                cases ra
                exact flat_nil _
              · subst c
                simp
            rw [e1] at q
            exact q.dat rs hx'
          · have e1 : k.toNat = 0 := by omega
            rw [e1] at q
            exact FinR.tup q rs .nil
        · have z1 : xs ≠ [] := fun z => hz (.inl z)
          have z2 : 2 ≤ k := by
            have : ¬ k ≤ 1 := fun z => hz (.inr z)
            omega
          exact .inr (.inr (.inl ⟨a, k, xs, rfl, rfl, ha, z1, z2, hc.2.1, by rw [← ra.length]; exact hc.2.2, FinR.tup q rs (ra.flat_rep _)⟩))
      · cases e
    · split at e
      · rename_i hc
        cases e
        obtain ⟨a, xs, rfl, ha, ra⟩ := hx.lst rs.sub
        cases hy.int
        exact .inr (.inr (.inr (.inr ⟨a, _, xs, rfl, rfl, ha, by have := hc.1; omega, by have := hc.2.1; omega, by rw [← ra.length]; exact hc.2.2, FinR.lst q rs (ra.flat_rep _)⟩)))
      · cases e
    · cases e
/-! ### methods that change nothing -/
def MtF (X : Cx) (T : String) (name : Str) (k : D → List D → Option R) : Prop := ∃ (id : String) (r : V → List V → Hp → VK → Prop), PlainAttrs T ∧ Slot T name id ∧ typeOf (.builtin id) = pure (.type "method_descriptor") ∧ MtR X id r ∧
  ∀ {J : Lk} {σ : L2.St} x xs res v vs ρ F H, RS (kj J X) σ ρ F H → PK (kj J X) F H x v → PKs (kj J X) F H xs vs → k x xs = some res → ∀ Q, FinR (kj J X) σ ρ F H res Q → r v vs H Q
/-- methods that change a list of one's own -/
def OwF (X : Cx) (name : Str) (k : List D → List D → Option (List D × D)) : Prop := ∃ (id : String) (r : V → List V → Hp → VK → Prop), Slot "list" name id ∧ typeOf (.builtin id) = pure (.type "method_descriptor") ∧ MtR X id r ∧
  ∀ {J : Lk} ds xs ys d p us vs F H1, H1 p = some (.lst us) → Reps (kj J X) F ds us → Reps (kj J X) F xs vs → Sub F H1 → k ds xs = some (ys, d) → ∀ Q : VK, (∀ ws w, Reps (kj J X) F ys ws → Rep (kj J X) F d w → Q w (upd H1 p (.lst ws))) → r (.ref p) vs H1 Q
section
variable {X : Cx} {o e : Expr} {es : List Expr} {fs : List DE} {T : String} {name : Str} {apos cpos : Pos} {k : D → List D → Option R} {ko : List D → List D → Option (List D × D)}
theorem pe_mD (M : MtF X T name k) (ho : PE X o (LE (kj J X) X.mg W f)) (ha : PA X (e :: es) (LA (kj J X) X.mg W fs)) (hbase : attributeBase o name X.env (eval o X.env) = eval o X.env := by rfl)
    (hfew : ((backTo cpos (starEach (e :: es) X.env)).all (fun x => !x.1) && (backToKw cpos (keywordEach [] X.env)).all (fun x => x.1.isSome) && decide ((e :: es).length + ([] : List Keyword).length + (if ([] : List Keyword).isEmpty then 0 else 1) < 30)) = true := by rfl)
    (hline : (apos.endLine == cpos.line) = true := by rfl) (hs : starEach (e :: es) X.env = (false, eval e X.env) :: starEach es X.env := by rfl) (hplain : (backTo cpos (starEach es X.env)).any (·.1) = false := by rfl) :
    PE X (.Call (.Attribute o name apos) (e :: es) [] cpos) (LE (kj J X) X.mg W (mR T f fs k)) := by
  obtain ⟨id, r, pa, slot, ty, M1, M2⟩ := M
  exact PE.imp (pe_bm pa slot ty M1 ho ha hbase hfew hline hs hplain) fun _ _ _ h => LE.mth h fun x xs res v vs ρ F H rs hx hy e q => M2 x xs res v vs ρ F H rs hx hy e _ q
theorem pe_m0D (M : MtF X T name k) (ho : PE X o (LE (kj J X) X.mg W f)) (hbase : attributeBase o name X.env (eval o X.env) = eval o X.env := by rfl) (hline : (apos.endLine == cpos.line) = true := by rfl) :
    PE X (.Call (.Attribute o name apos) [] [] cpos) (LE (kj J X) X.mg W (mR T f [] k)) := by
  obtain ⟨id, r, pa, slot, ty, M1, M2⟩ := M
  exact PE.imp (pe_bm0 pa slot ty M1 ho hbase hline) fun _ _ _ h => LE.mth0 h fun x xs res v vs ρ F H rs hx hy e q => M2 x xs res v vs ρ F H rs hx hy e _ q
theorem pe_oD (M : OwF X name ko) (ho : PE X o (LE (kj J X) X.mg W f)) (ha : PA X (e :: es) (LA (kj J X) X.mg W fs)) (hbase : attributeBase o name X.env (eval o X.env) = eval o X.env := by rfl)
    (hfew : ((backTo cpos (starEach (e :: es) X.env)).all (fun x => !x.1) && (backToKw cpos (keywordEach [] X.env)).all (fun x => x.1.isSome) && decide ((e :: es).length + ([] : List Keyword).length + (if ([] : List Keyword).isEmpty then 0 else 1) < 30)) = true := by rfl)
    (hline : (apos.endLine == cpos.line) = true := by rfl) (hs : starEach (e :: es) X.env = (false, eval e X.env) :: starEach es X.env := by rfl) (hplain : (backTo cpos (starEach es X.env)).any (·.1) = false := by rfl) :
    PE X (.Call (.Attribute o name apos) (e :: es) [] cpos) (LE (kj J X) X.mg W (mO f fs ko)) := by
  obtain ⟨id, r, slot, ty, M1, M2⟩ := M
  exact PE.imp (pe_bm PySem.F.plainAttrs_list slot ty M1 ho ha hbase hfew hline hs hplain) fun _ _ _ h => LE.own h fun ds xs ys d p us vs F H1 h1 h2 h3 h4 e q => M2 ds xs ys d p us vs F H1 h1 h2 h3 h4 e _ q
theorem pe_o0D (M : OwF X name ko) (ho : PE X o (LE (kj J X) X.mg W f)) (hbase : attributeBase o name X.env (eval o X.env) = eval o X.env := by rfl) (hline : (apos.endLine == cpos.line) = true := by rfl) :
    PE X (.Call (.Attribute o name apos) [] [] cpos) (LE (kj J X) X.mg W (mO f [] ko)) := by
  obtain ⟨id, r, slot, ty, M1, M2⟩ := M
  exact PE.imp (pe_bm0 PySem.F.plainAttrs_list slot ty M1 ho hbase hline) fun _ _ _ h => LE.own0 h fun ds xs ys d p us vs F H1 h1 h2 h3 h4 e q => M2 ds xs ys d p us vs F H1 h1 h2 h3 h4 e _ q
end
section
variable {X : Cx}
def oAppend : List D → List D → Option (List D × D)
  | ds, [x] => if ds.length < sizeLine then some (ds ++ [x], .non) else none
  | _, _ => none
theorem ow_append : OwF X "append" oAppend := ⟨_, _, PySem.F.slot_list_append, PySem.F.type_list_append, mt_append, by
  intro J ds xs ys d p us vs F H1 h1 h2 h3 h4 e Q q
  unfold oAppend at e
  split at e
  · split at e
    · cases e
      obtain ⟨v, rfl, r⟩ := h3.one
      exact ⟨p, us, v, rfl, rfl, h1, by rw [← h2.length]; assumption, q _ _ (h2.append (.cons r .nil)) .non⟩
    · cases e
  · cases e⟩
def oExtend : List D → List D → Option (List D × D)
  | ds, [.lst es] => if ds.length + es.length ≤ sizeLine then some (ds ++ es, .non) else none
  | _, _ => none
theorem ow_extend : OwF X "extend" oExtend := ⟨_, _, PySem.F.slot_list_extend, PySem.F.type_list_extend, mt_extend, by
  intro J ds xs ys d p us vs F H1 h1 h2 h3 h4 e Q q
  unfold oExtend at e
  split at e
  · split at e
    · cases e
      obtain ⟨v, rfl, r⟩ := h3.one
      cases r with
      | lst r1 r2 => exact ⟨p, _, us, _, rfl, rfl, h1, h4 _ _ r1, by rw [← h2.length, ← r2.length]; assumption, q _ _ (h2.append r2) .non⟩
    · cases e
  · cases e⟩
def oPop : List D → List D → Option (List D × D)
  | ds, [] => (ds[ds.length - 1]?).map fun x => (ds.dropLast, x)
  | ds, [.int i] => if -9223372036854775808 ≤ i ∧ i < 9223372036854775808 then (match seqIndex? i ds.length with
    | some j => (ds[j]?).map fun x => (ds.eraseIdx j, x)
    | none => none) else none
  | _, _ => none
theorem Reps.dropLast : ∀ {ds : List D} {us : List V}, Reps K F ds us → Reps K F ds.dropLast us.dropLast
  | _, _, .nil => .nil
  | _, _, .cons _ .nil => .nil
  | _, _, .cons a (.cons b c) => .cons a (Reps.dropLast (.cons b c))
theorem ow_pop : OwF X "pop" oPop := ⟨_, _, PySem.F.slot_list_pop, PySem.F.type_list_pop, MtR.or mt_pop mt_popAt, by
  intro J ds xs ys d p us vs F H1 h1 h2 h3 h4 e Q q
  unfold oPop at e
  split at e
  · cases h3.zero
    cases z : ds[ds.length - 1]? with
    | none => rw [z] at e; cases e
    | some x =>
      rw [z] at e
      cases e
      obtain ⟨v, hv, r⟩ := h2.get z
      exact .inl ⟨p, us, v, rfl, rfl, h1, by rw [← h2.length]; exact hv, q _ _ h2.dropLast r⟩
  · rename_i i
    split at e
    · rename_i hc
      obtain ⟨v, rfl, r⟩ := h3.one
      cases r
      cases z : seqIndex? i ds.length with
      | none => rw [z] at e; cases e
      | some j =>
        rw [z] at e
        dsimp only at e
        cases w : ds[j]? with
        | none => rw [w] at e; cases e
        | some x =>
          rw [w] at e
          cases e
          obtain ⟨v, hv, r⟩ := h2.get w
          exact .inr ⟨p, us, i, j, v, rfl, rfl, h1, by have := hc.1; omega, by have := hc.2; omega, by rw [← h2.length]; exact z, hv, q _ _ (h2.eraseIdx j) r⟩
    · cases e
  · cases e⟩
def oInsert : List D → List D → Option (List D × D)
  | ds, [.int i, x] => if ds.length < sizeLine ∧ 0 ≤ i ∧ i < 9223372036854775808 then some (ds.take i.toNat ++ [x] ++ ds.drop i.toNat, .non) else none
  | _, _ => none
theorem ow_insert : OwF X "insert" oInsert := ⟨_, _, PySem.F.slot_list_insert, PySem.F.type_list_insert, mt_insert, by
  intro J ds xs ys d p us vs F H1 h1 h2 h3 h4 e Q q
  unfold oInsert at e
  split at e
  · split at e
    · rename_i hc
      cases e
      obtain ⟨v, u, rfl, r1, r2⟩ := h3.two
      cases r1
      exact ⟨p, us, _, u, rfl, rfl, h1, by rw [← h2.length]; exact hc.1, hc.2.1, by have := hc.2.2; omega, q _ _ (((h2.take _).append (.cons r2 .nil)).append (h2.drop _)) .non⟩
    · cases e
  · cases e⟩
def oClear : List D → List D → Option (List D × D)
  | ds, [] => some ([], .non)
  | _, _ => none
theorem ow_clear : OwF X "clear" oClear := ⟨_, _, PySem.F.slot_list_clear, PySem.F.type_list_clear, mt_clear, by
  intro J ds xs ys d p us vs F H1 h1 h2 h3 h4 e Q q
  unfold oClear at e
  split at e
  · cases e
    cases h3.zero
    exact ⟨p, us, rfl, rfl, h1, q _ _ .nil .non⟩
  · cases e⟩
def oReverse : List D → List D → Option (List D × D)
  | ds, [] => some (ds.reverse, .non)
  | _, _ => none
theorem ow_reverse : OwF X "reverse" oReverse := ⟨_, _, PySem.F.slot_list_reverse, PySem.F.type_list_reverse, mt_reverse, by
  intro J ds xs ys d p us vs F H1 h1 h2 h3 h4 e Q q
  unfold oReverse at e
  split at e
  · cases e
    cases h3.zero
    exact ⟨p, us, rfl, rfl, h1, q _ _ h2.reverse .non⟩
  · cases e⟩
/-! texts -/
def kSplit : D → List D → Option R
  | .str a, [.str b] => if (b.length == 0) = false ∧ a.length + 2 ≤ sizeLine then some (.o (.lst ((Txt.split a b).map .str))) else none
  | .str a, [] => if a.length + 2 ≤ sizeLine then some (.o (.lst ((Txt.words a).map .str))) else none
  | _, _ => none
theorem Reps.ofStrs : ∀ ys : List Str, Reps K F (ys.map .str) (ys.map V.str)
  | [] => .nil
  | y :: ys => .cons (.str y) (Reps.ofStrs ys)
theorem mf_split : MtF X "str" "split" kSplit := ⟨_, _, PySem.F.plainAttrs_str, PySem.F.slot_str_split, PySem.F.type_str_split, MtR.or mt_split mt_words, by
  intro J σ x xs res v vs ρ F H rs hx hy e Q q
  unfold kSplit at e
  split at e
  · split at e
    · rename_i hc
      cases e
      cases hx.str
      obtain ⟨v, rfl, h⟩ := hy.one
      cases h.str
      exact .inl ⟨_, _, rfl, rfl, hc.1, hc.2, FinR.lst q rs (Reps.ofStrs _)⟩
    · cases e
  · split at e
    · rename_i hc
      cases e
      cases hx.str
      cases hy.zero
      exact .inr ⟨_, rfl, rfl, hc, FinR.lst q rs (Reps.ofStrs _)⟩
    · cases e
  · cases e⟩
def kJoin : D → List D → Option R
  | .str a, [.lst ds] => (match strsOf ds with
    | some ys => if (ys.map (·.length)).sum + ys.length * a.length ≤ 16777216 then some (.d (.str (Txt.join a ys))) else none
    | none => none)
  | .str a, [.tup ds] => (match strsOf ds with
    | some ys => if (ys.map (·.length)).sum + ys.length * a.length ≤ 16777216 then some (.d (.str (Txt.join a ys))) else none
    | none => none)
  | _, _ => none
theorem mf_join : MtF X "str" "join" kJoin := ⟨_, _, PySem.F.plainAttrs_str, PySem.F.slot_str_join, PySem.F.type_str_join, mt_join, by
  intro J σ x xs res v vs ρ F H rs hx hy e Q q
  unfold kJoin at e
  split at e
  · rename_i a ds
    cases z : strsOf ds with
    | none => rw [z] at e; cases e
    | some ys =>
      rw [z] at e
      dsimp only at e
      split at e
      · rename_i hc
        cases e
        cases hx.str
        obtain ⟨v, rfl, h⟩ := hy.one
        obtain ⟨p, us, rfl, ha, ra⟩ := h.lst rs.sub
        have := ra.strsOf z
        subst this
        exact ⟨_, _, _, rfl, rfl, .inl (SqL.of ha), hc, q.dat rs (.str _)⟩
      · cases e
  · rename_i a ds
    cases z : strsOf ds with
    | none => rw [z] at e; cases e
    | some ys =>
      rw [z] at e
      dsimp only at e
      split at e
      · rename_i hc
        cases e
        cases hx.str
        obtain ⟨v, rfl, h⟩ := hy.one
        obtain ⟨p, us, rfl, ha, ra⟩ := h.tup rs.sub
        have := ra.strsOf z
        subst this
        exact ⟨_, _, _, rfl, rfl, .inr ha, hc, q.dat rs (.str _)⟩
      · cases e
  · cases e⟩
/-- text, text -/
def kS2 (g : Str → Str → D) : D → List D → Option R
  | .str a, [.str b] => some (.d (g a b))
  | _, _ => none
theorem mf2 {name : Str} {id : String} {g : Str → Str → D} {h : Str → Str → V} (slot : Slot "str" name id) (ty : typeOf (.builtin id) = pure (.type "method_descriptor"))
    (m : MtR X id (fun x xs H Q => ∃ a b, x = .str a ∧ xs = [.str b] ∧ Q (h a b) H)) (hg : ∀ {J : Lk} F a b, Rep (kj J X) F (g a b) (h a b)) : MtF X "str" name (kS2 g) := ⟨_, _, PySem.F.plainAttrs_str, slot, ty, m, by
  intro J σ x xs res v vs ρ F H rs hx hy e Q q
  unfold kS2 at e
  split at e
  · cases e
    cases hx.str
    obtain ⟨v, rfl, h⟩ := hy.one
    cases h.str
    exact ⟨_, _, rfl, rfl, q.dat rs (hg _ _ _)⟩
  · cases e⟩
theorem mf_startswith : MtF X "str" "startswith" (kS2 fun a b => .bl (Txt.startswith a b)) := mf2 PySem.F.slot_str_startswith PySem.F.type_str_startswith mt_startswith fun _ _ _ => .bl _
theorem mf_endswith : MtF X "str" "endswith" (kS2 fun a b => .bl (Txt.endswith a b)) := mf2 PySem.F.slot_str_endswith PySem.F.type_str_endswith mt_endswith fun _ _ _ => .bl _
theorem mf_find : MtF X "str" "find" (kS2 fun a b => .int (Txt.find a b)) := mf2 PySem.F.slot_str_find PySem.F.type_str_find mt_find fun _ _ _ => .int _
theorem mf_count : MtF X "str" "count" (kS2 fun a b => .int (Txt.count a b)) := mf2 PySem.F.slot_str_count PySem.F.type_str_count mt_count fun _ _ _ => .int _
end
end
end Dn
end

section
set_option Elab.async false
set_option linter.all false
set_option maxRecDepth 100000
set_option maxHeartbeats 4000000
/-! Dn: the rules by syntax: names, constants, calls of one's own, targets, assignments, comprehensions. -/
namespace Dn
open PySem PySem.Spec L2
section
variable {K : Fg} {mg : MG} {W : WX} {pr : Nat → Bool} {σ σ1 σ' : L2.St} {ρ ρ1 ρ' : Env} {F F1 F' H H1 H' H0 : Hp} {v u : V} {f fa fb : DE} {x y : D} {g g1 g2 : DS} {c : Ctl} {D0 : Ends}
/-! ### names, constants, displays, signs -/
section
variable {X : Cx} {nm : Str} {pos : Pos} {es : List Expr} {fs : List DE}
theorem pe_nm (i : Nat) (hN : X.N[i]? = some nm := by rfl) (hv : Vis X.env.scope nm := by first | exact Or.inl rfl | exact Or.inr (Or.inl rfl) | exact Or.inr (Or.inr rfl)) (hd : (nm == ("__debug__" : Str)) = false := by decide)
    (hcd : (nm == ("__classdict__" : Str)) = false := by decide) : PE X (.Name nm pos) (LE (kj J X) X.mg W (xVar i)) := PE.imp (pv i hN hv hd hcd) fun _ _ _ h => LE.var h
theorem pe_intD {i : Int} {k : Nat} : PE X (.Constant (.int i) k pos) (LE (kj J X) X.mg W (xC (.int i))) := PE.imp pe_int fun _ _ _ h => LE.con (fun _ => .int i) h
theorem pe_strD {z : Str} {k : Nat} : PE X (.Constant (.str z) k pos) (LE (kj J X) X.mg W (xC (.str z))) := PE.imp pe_str fun _ _ _ h => LE.con (fun _ => .str z) h
theorem pe_blD {b : Bool} {k : Nat} : PE X (.Constant (.bool b) k pos) (LE (kj J X) X.mg W (xC (.bl b))) := PE.imp pe_bl fun _ _ _ h => LE.con (fun _ => .bl b) h
theorem pe_nonD {k : Nat} : PE X (.Constant .none k pos) (LE (kj J X) X.mg W (xC .non)) := PE.imp pe_non fun _ _ _ h => LE.con (fun _ => .non) h
theorem pe_gloD {u : Value} (hg : Gl X nm) (hm : X.mg nm = some u) (r : RelV v u) (hx : ∀ F, Rep (kj J X) F x v) (hd : (nm == ("__debug__" : Str)) = false := by decide) : PE X (.Name nm pos) (LE (kj J X) X.mg W (xC x)) := PE.imp (pe_glob hg hm r hd) fun _ _ _ h => LE.con hx h
theorem pe_tupD {x1} (h : PA X es (LA (kj J X) X.mg W fs)) (hz : fs.length ≤ sizeLine := by decide) : PE X (.Tuple es x1 pos) (LE (kj J X) X.mg W (xTup fs)) := PE.imp (pe_tup h) fun _ _ _ h => LE.tup hz h
theorem pe_lstD (h : PA X es (LA (kj J X) X.mg W fs)) (hz : fs.length ≤ sizeLine := by decide) : PE X (.List es pos) (LE (kj J X) X.mg W (xLst fs)) := PE.imp (pe_lst h) fun _ _ _ h => LE.lst hz h
def kNeg : D → Option R
  | .int i => some (.d (.int (-i)))
  | _ => none
theorem pe_negD {e : Expr} (h : PE X e (LE (kj J X) X.mg W f)) : PE X (.UnaryOp .USub e pos) (LE (kj J X) X.mg W (o1 f kNeg)) := PE.imp (pe_un un_neg h) fun _ _ _ h => LE.one h fun x res v ρ F H rs hx e q => by
  unfold kNeg at e
  split at e
  · cases e
    cases hx.int
    exact ⟨_, rfl, q.dat rs (.int _)⟩
  · cases e
end
/-! ### values of tests -/
def xT (t : Dx Bool) : DE := bE t fun b => rE (.d (.bl b))
/-! ### calls -/
theorem takes_no {X : Cx} {s : Shared} {H : Hp} {scope : Scope} {ce : PySem.Env} {fp : List Addr} : Takes (X.blk s H scope ce fp) noX := fun u s' ⟨_, _, _, _, _, _, _, _, _, _, _, _, _, _, _, _, w⟩ => w.elim
section
variable {X : Cx} {k : Nat} {fA : Addr} {fd : FuncData} {ps : List Str} {n : Nat} {fn : FD} {nm : Str} {e : Expr} {es : List Expr} {fs : List DE} {p pos : Pos} {dvs : List V} {dus : List Value} {dd : List D}
theorem pe_fnD (Fn : FnG X.prog X.w X.K X.mg X.base k fA fd ps (spD (kj J X) X.mg n fn)) (hr : Room k X.A) (hG : X.A.guards = some []) (tk : Takes X W) (hg : Gl X nm) (hm : X.mg nm = some (.ref fA)) (hk : PySem.W.keepIn X.K (.ref fA) = true)
    (hb : Binds X.K fd ps dus) (hd : Vals dvs dus) (rd : ∀ F, Reps (kj J X) F dd dvs) (hn : fs.length + dd.length = n) (ha : PA X (e :: es) (LA (kj J X) X.mg W fs)) (hdb : (nm == ("__debug__" : Str)) = false := by decide)
    (he : starEach (e :: es) X.env = (false, eval e X.env) :: starEach es X.env := by rfl) (hpl : (backTo pos (starEach es X.env)).any (·.1) = false := by rfl) : PE X (.Call (.Name nm p) (e :: es) [] pos) (LE (kj J X) X.mg W (dCall fn fs dd)) :=
  PE.imp (pe_callG Fn hr hG hg hm hk hb hd (fun σ => passAt tk σ) ha hdb he hpl) fun _ _ _ h => LE.call rd hn h
end
/-! ### targets -/
def GLen (t : GT) : Prop := ∀ {x : D} {ρ ρ' : Env}, t x ρ = some ρ' → ρ'.length = ρ.length
theorem gl_nm {i : Nat} : GLen (gNm i) := fun {x ρ ρ'} e => by
  unfold gNm at e
  split at e
  · cases e
    exact List.length_set
  · cases e
def GLens : List GT → Prop
  | [] => True
  | t :: ts => GLen t ∧ GLens ts
theorem gls_len : ∀ {ts : List GT} {xs : List D} {ρ ρ' : Env}, GLens ts → gTs ts xs ρ = some ρ' → ρ'.length = ρ.length
  | [], [], ρ, ρ', _, e => by
    cases e
    rfl
  | [], _ :: _, _, _, _, e => by cases e
  | _ :: _, [], _, _, _, e => by cases e
  | t :: ts, x :: xs, ρ, ρ', h, e => by
    have e : (t x ρ).bind (gTs ts xs) = some ρ' := e
    cases z : t x ρ with
    | none => rw [z] at e; cases e
    | some ρ1 =>
      rw [z] at e
      exact (gls_len h.2 e).trans (h.1 z)
theorem gl_tp {ts : List GT} (h : GLens ts) : GLen (gTp ts) := fun {x ρ ρ'} e => by
  unfold gTp at e
  cases x with
  | tup xs =>
    dsimp only at e
    split at e
    · exact gls_len h e
    · cases e
  | _ => cases e
theorem PGs.imp {X : Cx} {e : List Expr} {t t' : TGs} (h : PGs X e t) (i : ∀ v σ H Q, t' v σ H Q → t v σ H Q) : PGs X e t' := ⟨fun pins s σ H v u Q I r q => h.run pins s σ H v u Q I r (i v σ H Q q)⟩
section
variable {X : Cx} {nm : Str} {pos : Pos} {e : Expr} {es : List Expr} {t : GT} {ts : List GT}
theorem pg_nmD (i : Nat) (hN : X.N.Nodup) (hp : pr i = false := by rfl) (hi : X.N[i]? = some nm := by rfl) (hx : Loc X.env.scope nm := by first | exact .inl rfl | exact .inr rfl)
    (hf : X.fn nm = true ∨ X.env.scope.names.lookup nm = some .local := by first | exact .inl rfl | exact .inr rfl | assumption) : PG X (.Name nm pos) (LG (kj J X) pr (gNm i)) := PG.imp (pg_name hN hi hx hf) fun _ _ _ _ h => LG.name hp h
theorem pgs_nilD : PGs X [] (LGs (kj J X) pr []) := PGs.imp pgs_nil fun _ _ _ _ h => LGs.nil h
theorem pgs_consD (h1 : PG X e (LG (kj J X) pr t)) (h2 : PGs X es (LGs (kj J X) pr ts)) (hs : (assignEach (e :: es) X.env).map (·.2) = assign e X.env :: (assignEach es X.env).map (·.2) := by rfl) : PGs X (e :: es) (LGs (kj J X) pr (t :: ts)) := PGs.imp (pgs_cons h1 h2 hs) fun _ _ _ _ h => LGs.cons h
theorem pg_tpD {k : Nat} (hc : X.calm = true) (h : PGs X es (LGs (kj J X) pr ts)) (hn : (assignEach es X.env).length = ts.length := by rfl) (hst : (assignEach es X.env).findIdx? (·.1) = none := by rfl) : PG X (.Tuple es k pos) (LG (kj J X) pr (gTp ts)) := PG.imp (pg_tup hc h hn hst) fun _ _ _ _ h => LG.tup rfl h
end
/-! ### several names at once: x, y = a, b -/
/-- what an expression gave, while others are evaluated -/
def RL (K : Fg) (σ : L2.St) (ρ : Env) (F H H0 : Hp) : R → V → Prop
  | .d x, v => Rep K F x v
  | .o x, v => RR K σ ρ F H H0 (.o x) v
  | .s i, v => σ[i]? = some (some v)
theorem RL.of {a : R} (h : RR K σ ρ F H H0 a v) : RL K σ ρ F H H0 a v := by
  cases a with
  | d x => exact h
  | o x => exact h
  | s i => exact h.1
theorem RL.weak {a : R} (l : ∀ c, H0 c ≠ none → H1 c ≠ none) (h : RL K σ ρ F H H1 a v) : RL K σ ρ F H H0 a v := by
  cases a with
  | d x => exact h
  | o x => exact RR.weak (a := .o x) l h
  | s i => exact h
theorem RL.carry {a : R} (h : RL K σ ρ F H H0 a v) (g : Gr σ ρ F H σ ρ1 F1 H1) : RL K σ ρ1 F1 H1 H0 a v := by
  cases a with
  | d x => exact Rep.sub g.mono h
  | s i => exact h
  | o x =>
    obtain ⟨p, rfl, h0, no, hf, o, ho, w⟩ := h
    have hn : H p ≠ none := by rw [ho]; simp
    exact ⟨p, rfl, h0, fun q => (g.sub p q).elim no hn, g.nofz p hn no hf, o, (g.keep p hn no).trans ho, w.sub g.mono⟩
def isO : R → Bool
  | .o _ => true
  | _ => false
inductive RLs (K : Fg) (σ : L2.St) (ρ : Env) (F H H0 : Hp) : List R → List V → Prop
  | nil : RLs K σ ρ F H H0 [] []
  | cons {a : R} {v : V} {as : List R} {vs : List V} : RL K σ ρ F H H0 a v → RLs K σ ρ F H H0 as vs → (isO a = true → ∀ (j : Nat) (b : R), as[j]? = some b → isO b = true → vs[j]? ≠ some v) → RLs K σ ρ F H H0 (a :: as) (v :: vs)
theorem RLs.weak (l : ∀ c, H0 c ≠ none → H1 c ≠ none) : ∀ {as : List R} {vs : List V}, RLs K σ ρ F H H1 as vs → RLs K σ ρ F H H0 as vs
  | _, _, .nil => .nil
  | _, _, .cons a b n => .cons (a.weak l) (RLs.weak l b) n
theorem RLs.carry (g : Gr σ ρ F H σ ρ1 F1 H1) : ∀ {as : List R} {vs : List V}, RLs K σ ρ F H H0 as vs → RLs K σ ρ1 F1 H1 H0 as vs
  | _, _, .nil => .nil
  | _, _, .cons a b n => .cons (a.carry g) (RLs.carry g b) n
theorem RLs.get : ∀ {as : List R} {vs : List V} {j : Nat} {a : R}, RLs K σ ρ F H H0 as vs → as[j]? = some a → ∃ v, vs[j]? = some v ∧ RL K σ ρ F H H0 a v
  | _, _, _, _, .nil, h => by simp at h
  | _, _, 0, _, .cons r _ _, h => by
    simp at h
    subst h
    exact ⟨_, rfl, r⟩
  | _, _, j + 1, _, .cons _ t _, h => RLs.get (j := j) t (by simpa using h)
def eL : List DE → Dx (List R)
  | [] => rE []
  | f :: fs => bE f fun a => bE (eL fs) fun as => rE (a :: as)
def LAo (K : Fg) (mg : MG) (W : WX) (fs : List DE) : TA := fun σ H Q => ∃ ρ F r ρ', RS K σ ρ F H ∧ eL fs ρ = some (r, ρ') ∧
  match (r : Except Exn (List R)) with
  | .ok as => ∀ vs F' H', RS K σ ρ' F' H' → Gr σ ρ F H σ ρ' F' H' → RLs K σ ρ' F' H' H as vs → Q vs H'
  | .error x => EX K mg W σ ρ F H x ρ'
theorem LAo.nil : ∀ {σ : L2.St} {H : Hp} {Q : List V → Hp → Prop}, LAo K mg W [] σ H Q → tNil σ H Q := by
  rintro σ H Q ⟨ρ, F, r, ρ', rs, e, q⟩
  cases e
  exact q [] F H rs Gr.refl .nil
theorem LAo.cons {fs : List DE} : ∀ {σ : L2.St} {H : Hp} {Q : List V → Hp → Prop}, LAo K mg W (f :: fs) σ H Q → tCons (LE K mg W f) (LAo K mg W fs) σ H Q := by
  rintro σ H Q ⟨ρ, F, r, ρ', rs, e, q⟩
  refine LE.bind (k := fun a => bE (eL fs) fun as => rE (a :: as)) rs e (fun x hx => by subst hx; exact q) fun a v ρ1 F1 H1 rs1 g1 rr e1 => ?_
  unfold bE at e1
  cases z : eL fs ρ1 with
  | none => rw [z] at e1; cases e1
  | some w =>
    obtain ⟨ra, ρ2⟩ := w
    rw [z] at e1
    cases ra with
    | error x =>
      cases e1
      exact ⟨ρ1, F1, .error x, _, rs1, z, EX.trans g1 q⟩
    | ok as =>
      cases e1
      refine ⟨ρ1, F1, .ok as, _, rs1, z, fun vs F2 H2 rs2 g2 rl => ?_⟩
      refine q (v :: vs) F2 H2 rs2 (g1.trans g2) (.cons ((RL.of rr).carry g2) (rl.weak g1.live) ?_)
      intro ha j b hb ho hv
      cases a with
      | o x =>
        obtain ⟨p, rfl, h0, no, hf, o, hp, w⟩ := rr
        obtain ⟨v', hv', r'⟩ := rl.get hb
        rw [hv] at hv'
        cases hv'
        cases b with
        | o y =>
          obtain ⟨p', e', h0', _⟩ := r'
          cases e'
          rw [h0'] at hp
          cases hp
        | _ => cases ho
      | _ => cases ha
/-- what was a slot's becomes data -/
def frzL : Env → List R → Option (List R × Env)
  | ρ, [] => some ([], ρ)
  | ρ, .s j :: as => match frzS ρ j with
    | some (x, ρ1) => (frzL ρ1 as).map fun p => (.d x :: p.1, p.2)
    | none => none
  | ρ, .d x :: as => (frzL ρ as).map fun p => (.d x :: p.1, p.2)
  | ρ, .o x :: as => (frzL ρ as).map fun p => (.o x :: p.1, p.2)
def noSl : List R → Bool
  | [] => true
  | .s _ :: _ => false
  | _ :: as => noSl as
theorem frzL_isO : ∀ {as bs : List R} {ρ ρ' : Env}, frzL ρ as = some (bs, ρ') → noSl bs = true ∧ ∀ (j : Nat) (b : R), bs[j]? = some b → isO b = true → as[j]? = some b
  | [], bs, ρ, ρ', e => by
    cases e
    exact ⟨rfl, fun j b h => by simp at h⟩
  | .s i :: as, bs, ρ, ρ', e => by
    unfold frzL at e
    cases z : frzS ρ i with
    | none => rw [z] at e; cases e
    | some w =>
      obtain ⟨x, ρ1⟩ := w
      rw [z] at e
      dsimp only at e
      cases y : frzL ρ1 as with
      | none => rw [y] at e; cases e
      | some w =>
        rw [y] at e
        cases e
        obtain ⟨a, b⟩ := frzL_isO y
        refine ⟨a, fun j c h ho => ?_⟩
        cases j with
        | zero =>
          simp at h
          subst h
          cases ho
        | succ j => simpa using b j c (by simpa using h) ho
  | .d x :: as, bs, ρ, ρ', e => by
    unfold frzL at e
    cases y : frzL ρ as with
    | none => rw [y] at e; cases e
    | some w =>
      rw [y] at e
      cases e
      obtain ⟨a, b⟩ := frzL_isO y
      refine ⟨a, fun j c h ho => ?_⟩
      cases j with
      | zero =>
        simp at h
        subst h
        rfl
      | succ j => simpa using b j c (by simpa using h) ho
  | .o x :: as, bs, ρ, ρ', e => by
    unfold frzL at e
    cases y : frzL ρ as with
    | none => rw [y] at e; cases e
    | some w =>
      rw [y] at e
      cases e
      obtain ⟨a, b⟩ := frzL_isO y
      refine ⟨a, fun j c h ho => ?_⟩
      cases j with
      | zero =>
        simp at h
        subst h
        rfl
      | succ j => simpa using b j c (by simpa using h) ho
theorem frzL_ok : ∀ {as bs : List R} {vs : List V} {ρ ρ' : Env} {F : Hp}, RS K σ ρ F H → RLs K σ ρ F H H0 as vs → frzL ρ as = some (bs, ρ') →
    ∃ F', RS K σ ρ' F' H ∧ Gr σ ρ F H σ ρ' F' H ∧ RLs K σ ρ' F' H H0 bs vs
  | [], bs, vs, ρ, ρ', F, rs, rl, e => by
    cases e
    exact ⟨F, rs, Gr.refl, rl⟩
  | .s i :: as, bs, _, ρ, ρ', F, rs, .cons a b n, e => by
    unfold frzL at e
    cases z : frzS ρ i with
    | none => rw [z] at e; cases e
    | some w =>
      obtain ⟨x, ρ1⟩ := w
      rw [z] at e
      dsimp only at e
      obtain ⟨F1, rs1, g1, r1⟩ := frzS_ok rs a z
      cases y : frzL ρ1 as with
      | none => rw [y] at e; cases e
      | some w =>
        rw [y] at e
        cases e
        obtain ⟨F2, rs2, g2, r2⟩ := frzL_ok rs1 (b.carry g1) y
        exact ⟨F2, rs2, g1.trans g2, .cons (r1.sub g2.mono) r2 fun h => nomatch h⟩
  | .d x :: as, bs, _, ρ, ρ', F, rs, .cons a b n, e => by
    unfold frzL at e
    cases y : frzL ρ as with
    | none => rw [y] at e; cases e
    | some w =>
      rw [y] at e
      cases e
      obtain ⟨F2, rs2, g2, r2⟩ := frzL_ok rs b y
      exact ⟨F2, rs2, g2, .cons (RL.carry (a := .d x) a g2) r2 fun h => nomatch h⟩
  | .o x :: as, bs, _, ρ, ρ', F, rs, .cons a b n, e => by
    unfold frzL at e
    cases y : frzL ρ as with
    | none => rw [y] at e; cases e
    | some w =>
      rw [y] at e
      cases e
      obtain ⟨F2, rs2, g2, r2⟩ := frzL_ok rs b y
      exact ⟨F2, rs2, g2, .cons (RL.carry (a := .o x) a g2) r2 fun h j c hc ho => n rfl j c ((frzL_isO y).2 j c hc ho) ho⟩
def setL : List Nat → List R → Env → Option Env
  | [], [], ρ => some ρ
  | i :: is, .d x :: as, ρ => if i < ρ.length then setL is as (ρ.set i (some (.d x))) else none
  | i :: is, .o x :: as, ρ => if i < ρ.length then setL is as (ρ.set i (some (.o x))) else none
  | _, _, _ => none
def setV : L2.St → List Nat → List V → L2.St
  | σ, i :: is, v :: vs => setV (σ.set i (some v)) is vs
  | σ, _, _ => σ
theorem setL_ok : ∀ {is : List Nat} {as : List R} {vs : List V} {σ : L2.St} {ρ ρ' : Env}, RS K σ ρ F H → RLs K σ ρ F H H0 as vs → noSl as = true → (∀ i ∈ is, pr i = false) → setL is as ρ = some ρ' →
    RS K (setV σ is vs) ρ' F H ∧ (∀ p, Ow ρ' (setV σ is vs) p → Ow ρ σ p ∨ H0 p = none) ∧ ∀ j : Nat, pr j = true → (setV σ is vs)[j]? = σ[j]?
  | [], [], vs, σ, ρ, ρ', rs, rl, _, _, e => by
    cases rl
    cases e
    exact ⟨rs, fun p h => .inl h, fun _ _ => rfl⟩
  | [], _ :: _, _, _, _, _, _, _, _, _, e => by cases e
  | _ :: _, [], _, _, _, _, _, _, _, _, e => by cases e
  | _ :: _, .s _ :: _, _, _, _, _, _, _, h, _, _ => by cases h
  | i :: is, .d x :: as, _, σ, ρ, ρ', rs, .cons (v := v) (vs := vs) a b n, hn, hp, e => by
    unfold setL at e
    split at e
    · rename_i hi
      obtain ⟨a1, a2⟩ := setD rs hi (show Rep K F x v from a)
      have hb : RLs K (σ.set i (some v)) (ρ.set i (some (.d x))) F H H0 as vs := by
        clear e a
        replace hn : noSl as = true := hn
        clear n
        induction b with
        | nil => exact .nil
        | @cons a v' as vs r t m ih =>
          refine .cons ?_ (ih ?_) m
          · cases a with
            | d y => exact r
            | s j => cases hn
            | o y =>
              obtain ⟨p, e1, h0, no, w⟩ := r
              refine ⟨p, e1, h0, fun q => ?_, w⟩
              obtain ⟨j, z, q1, q2⟩ := q
              by_cases hj : j = i
              · subst hj
                rw [gt_same hi] at q1
                cases q1
              · rw [gt_ne hj] at q1
                rw [List.getElem?_set_ne (Ne.symm hj)] at q2
                exact no ⟨j, z, q1, q2⟩
          · cases a with
            | s j => cases hn
            | d y => exact hn
            | o y => exact hn
      obtain ⟨b1, b2, b3⟩ := setL_ok a1 hb hn (fun j hj => hp j (List.mem_cons_of_mem _ hj)) e
      refine ⟨b1, fun p h => ?_, fun j hj => (b3 j hj).trans (List.getElem?_set_ne (fun z => by subst z; rw [hp _ List.mem_cons_self] at hj; cases hj))⟩
      rcases b2 p h with z | z
      · refine .inl ?_
        obtain ⟨j, z, q1, q2⟩ := z
        by_cases hj : j = i
        · subst hj
          rw [gt_same hi] at q1
          cases q1
        · rw [gt_ne hj] at q1
          rw [List.getElem?_set_ne (Ne.symm hj)] at q2
          exact ⟨j, z, q1, q2⟩
      · exact .inr z
    · cases e
  | i :: is, .o x :: as, _, σ, ρ, ρ', rs, .cons (v := v) (vs := vs) a b n, hn, hp, e => by
    unfold setL at e
    split at e
    · rename_i hi
      have a' : RR K σ ρ F H H0 (.o x) v := a
      obtain ⟨a1, a2⟩ := setO rs hi (fun p z => by obtain ⟨p', e1, e2, _⟩ := a'; rw [e1] at z; cases z; exact e2) a'
      obtain ⟨pa, ea, ha0, _⟩ := a'
      have hb : RLs K (σ.set i (some v)) (ρ.set i (some (.o x))) F H H0 as vs := by
        clear e a
        replace hn : noSl as = true := hn
        replace n := n rfl
        induction b with
        | nil => exact .nil
        | @cons a v' as vs r t m ih =>
          refine .cons ?_ (ih ?_ fun j c hc ho hv => n (j + 1) c (by simpa using hc) ho (by simpa using hv)) m
          · cases a with
            | d y => exact r
            | s j => cases hn
            | o y =>
              obtain ⟨p, e1, h0, no, w⟩ := r
              refine ⟨p, e1, h0, fun q => ?_, w⟩
              obtain ⟨j, z, q1, q2⟩ := q
              by_cases hj : j = i
              · subst hj
                have hi2 : j < σ.length := by rw [← rs.len]; exact hi
                rw [List.getElem?_set_self hi2] at q2
                have n0 := n 0 (.o y) rfl rfl
                apply n0
                simp
                have q3 := Option.some.inj (Option.some.inj q2)
                rw [e1, ← q3]
              · rw [gt_ne hj] at q1
                rw [List.getElem?_set_ne (Ne.symm hj)] at q2
                exact no ⟨j, z, q1, q2⟩
          · cases a with
            | s j => cases hn
            | d y => exact hn
            | o y => exact hn
      obtain ⟨b1, b2, b3⟩ := setL_ok a1 hb hn (fun j hj => hp j (List.mem_cons_of_mem _ hj)) e
      refine ⟨b1, fun p h => ?_, fun j hj => (b3 j hj).trans (List.getElem?_set_ne (fun z => by subst z; rw [hp _ List.mem_cons_self] at hj; cases hj))⟩
      rcases b2 p h with z | z
      · exact a2 p z
      · exact .inr z
    · cases e
def sPar (is : List Nat) (fs : List DE) : DS := bS (eL fs) fun as => fun ρ => match frzL ρ as with
  | some (bs, ρ1) => (setL is bs ρ1).map fun ρ2 => (.nx, ρ2)
  | none => none
theorem LS.par {is : List Nat} {fs : List DE} (hp : ∀ i ∈ is, pr i = false) {D0 : Ends} {σ : L2.St} {H : Hp} (h : LS K mg W pr (sPar is fs) D0 σ H) : LAo K mg W fs σ H fun vs H1 => D0.nx (setV σ is vs) H1 := by
  obtain ⟨ρ, F, c, ρ', rs, e, q⟩ := h
  unfold sPar bS at e
  cases z : eL fs ρ with
  | none => rw [z] at e; cases e
  | some z1 =>
    obtain ⟨ra, ρ1⟩ := z1
    rw [z] at e
    cases ra with
    | error x =>
      cases e
      exact ⟨ρ, F, .error x, _, rs, z, fun cls d F' H' rs' g' xr => q σ F' H' rs' g' (fun _ _ => rfl) cls d xr⟩
    | ok as =>
      refine ⟨ρ, F, .ok as, ρ1, rs, z, fun vs F1 H1 rs1 g1 rl => ?_⟩
      dsimp only at e
      cases y : frzL ρ1 as with
      | none => rw [y] at e; cases e
      | some w =>
        obtain ⟨bs, ρ2⟩ := w
        rw [y] at e
        dsimp only at e
        obtain ⟨F2, rs2, g2, rl2⟩ := frzL_ok rs1 rl y
        cases u : setL is bs ρ2 with
        | none => rw [u] at e; cases e
        | some ρ3 =>
          rw [u] at e
          cases e
          obtain ⟨a1, a2, a3⟩ := setL_ok rs2 rl2 (frzL_isO y).1 hp u
          have g12 := g1.trans g2
          exact q _ F2 H1 a1 ⟨g12.keep, g12.live, g12.mono, g12.nofz, fun p h => (a2 p h).elim (g12.sub p) .inr⟩ a3
end
end Dn
end

section
set_option Elab.async false
set_option linter.all false
set_option maxRecDepth 100000
set_option maxHeartbeats 4000000
/-! Dn: assignments, comprehensions, a def in its context. -/
namespace Dn
open PySem PySem.Spec L2
section
variable {K : Fg} {mg : MG} {W : WX} {pr : Nat → Bool} {σ σ1 σ' : L2.St} {ρ ρ1 ρ' : Env} {F F1 F' H H1 H' H0 : Hp} {v u : V} {f fa fb fc : DE} {x y : D} {g g1 g2 : DS} {c : Ctl} {D0 : Ends}
theorem all2 {i j : Nat} (h1 : pr i = false) (h2 : pr j = false) : ∀ k ∈ [i, j], pr k = false := by
  intro k hk
  simp at hk
  rcases hk with rfl | rfl <;> assumption
theorem all3 {i j l : Nat} (h1 : pr i = false) (h2 : pr j = false) (h3 : pr l = false) : ∀ k ∈ [i, j, l], pr k = false := by
  intro k hk
  simp at hk
  rcases hk with rfl | rfl | rfl <;> assumption
theorem LAo.two {Q : List V → Hp → Prop} (h : LAo K mg W [fa, fb] σ H fun vs H => Q vs H) : tCons (LE K mg W fa) (tCons (LE K mg W fb) tNil) σ H Q := by
  obtain ⟨ρ, F, r, ρ', rs, e, q⟩ := LAo.cons h
  refine ⟨ρ, F, r, ρ', rs, e, ?_⟩
  cases r with
  | error x => exact q
  | ok a =>
    refine fun v F' H' rs' g' rr => ?_
    obtain ⟨ρ2, F2, r2, ρ3, rs2, e2, q2⟩ := LAo.cons (q v F' H' rs' g' rr)
    refine ⟨ρ2, F2, r2, ρ3, rs2, e2, ?_⟩
    cases r2 with
    | error x => exact q2
    | ok b => exact fun v' F' H' rs' g' rr => LAo.nil (q2 v' F' H' rs' g' rr)
theorem LAo.three {Q : List V → Hp → Prop} (h : LAo K mg W [fa, fb, fc] σ H fun vs H => Q vs H) : tCons (LE K mg W fa) (tCons (LE K mg W fb) (tCons (LE K mg W fc) tNil)) σ H Q := by
  obtain ⟨ρ, F, r, ρ', rs, e, q⟩ := LAo.cons h
  refine ⟨ρ, F, r, ρ', rs, e, ?_⟩
  cases r with
  | error x => exact q
  | ok a => exact fun v F' H' rs' g' rr => LAo.two (q v F' H' rs' g' rr)
theorem eL_len : ∀ {fs : List DE} {as : List R} {ρ ρ' : Env}, eL fs ρ = some (.ok as, ρ') → as.length = fs.length
  | [], as, ρ, ρ', e => by cases e; rfl
  | f :: fs, as, ρ, ρ', e => by
    unfold eL bE at e
    cases ef : f ρ with
    | none => rw [ef] at e; cases e
    | some z =>
      obtain ⟨r, ρ1⟩ := z
      rw [ef] at e
      cases r with
      | error x => cases e
      | ok a =>
        have e : bE (eL fs) (fun as => rE (a :: as)) ρ1 = some (.ok as, ρ') := e
        unfold bE at e
        cases eb : eL fs ρ1 with
        | none => rw [eb] at e; cases e
        | some z =>
          obtain ⟨r2, ρ2⟩ := z
          rw [eb] at e
          cases r2 with
          | error x => cases e
          | ok bs =>
            cases e
            exact congrArg (· + 1) (eL_len eb)
theorem RLs.length : ∀ {as : List R} {vs : List V}, RLs K σ ρ F H H0 as vs → as.length = vs.length
  | _, _, .nil => rfl
  | _, _, .cons _ t _ => congrArg (· + 1) (RLs.length t)
theorem LAo.len {fs : List DE} {Q : List V → Hp → Prop} (h : LAo K mg W fs σ H Q) : LAo K mg W fs σ H fun vs H => vs.length = fs.length ∧ Q vs H := by
  obtain ⟨ρ, F, r, ρ', rs, e, q⟩ := h
  refine ⟨ρ, F, r, ρ', rs, e, ?_⟩
  cases r with
  | error x => exact q
  | ok as => exact fun vs F' H' rs' g' rl => ⟨rl.length.symm.trans (eL_len e), q vs F' H' rs' g' rl⟩
theorem LAo.imp {fs : List DE} {Q Q' : List V → Hp → Prop} (i : ∀ vs H, Q vs H → Q' vs H) (h : LAo K mg W fs σ H Q) : LAo K mg W fs σ H Q' := by
  obtain ⟨ρ, F, r, ρ', rs, e, q⟩ := h
  refine ⟨ρ, F, r, ρ', rs, e, ?_⟩
  cases r with
  | error x => exact q
  | ok as => exact fun vs F' H' rs' g' rl => i _ _ (q vs F' H' rs' g' rl)
section
variable {X : Cx} {i j l : Nat} {nx ny nz : Str} {a b d : Expr} {px py pz pt pos : Pos} {kt k2 : Nat} {pt2 : Pos}
theorem ps_par2D (hp : ∀ k ∈ [i, j], pr k = false) (hc : X.calm = true) (hN : X.N.Nodup) (hi : X.N[i]? = some nx) (hj : X.N[j]? = some ny) (hij : i ≠ j)
    (hx : X.env.scope.names.lookup nx = some .local) (hy : X.env.scope.names.lookup ny = some .local) (ha : PE X a (LE (kj J X) X.mg W fa)) (hb : PE X b (LE (kj J X) X.mg W fb))
    (hw : swappedStores [.Tuple [.Name nx px, .Name ny py] kt pt] (.Tuple [a, b] k2 pt2) X.env = pure (some [nx, ny]))
    (s1 : starEach [a, b] X.env = (false, eval a X.env) :: starEach [b] X.env := by rfl) (s2 : starEach [b] X.env = (false, eval b X.env) :: starEach [] X.env := by rfl)
    (hs : swapsWithSole [.Tuple [.Name nx px, .Name ny py] kt pt] (.Tuple [a, b] k2 pt2) pos.line X.env = pure false := by rfl) :
    PS X (.Assign [.Tuple [.Name nx px, .Name ny py] kt pt] (.Tuple [a, b] k2 pt2) pos) (LS (kj J X) X.mg W pr (sPar [i, j] [fa, fb])) :=
  PS.imp (ps_par hc hN hi hj hij hx hy (pa_cons ha (pa_cons hb pa_nil s2) s1) hw hs) fun D σ H h =>
    LAo.two (LAo.imp (fun vs H ⟨hl, q⟩ => by
      match vs, hl, q with
      | [v, w], _, q => exact ⟨v, w, rfl, q⟩) (LAo.len (LS.par hp h)))
theorem ps_par3D (hp : ∀ k ∈ [i, j, l], pr k = false) (hc : X.calm = true) (hN : X.N.Nodup) (hi : X.N[i]? = some nx) (hj : X.N[j]? = some ny) (hl : X.N[l]? = some nz) (hij : i ≠ j) (hil : i ≠ l) (hjl : j ≠ l)
    (hx : X.env.scope.names.lookup nx = some .local) (hy : X.env.scope.names.lookup ny = some .local) (hz : X.env.scope.names.lookup nz = some .local) (ha : PE X a (LE (kj J X) X.mg W fa)) (hb : PE X b (LE (kj J X) X.mg W fb)) (hd : PE X d (LE (kj J X) X.mg W fc))
    (hw : swappedStores [.Tuple [.Name nx px, .Name ny py, .Name nz pz] kt pt] (.Tuple [a, b, d] k2 pt2) X.env = pure (some [nx, ny, nz]))
    (s1 : starEach [a, b, d] X.env = (false, eval a X.env) :: starEach [b, d] X.env := by rfl) (s2 : starEach [b, d] X.env = (false, eval b X.env) :: starEach [d] X.env := by rfl) (s3 : starEach [d] X.env = (false, eval d X.env) :: starEach [] X.env := by rfl)
    (hs : swapsWithSole [.Tuple [.Name nx px, .Name ny py, .Name nz pz] kt pt] (.Tuple [a, b, d] k2 pt2) pos.line X.env = pure false := by rfl) :
    PS X (.Assign [.Tuple [.Name nx px, .Name ny py, .Name nz pz] kt pt] (.Tuple [a, b, d] k2 pt2) pos) (LS (kj J X) X.mg W pr (sPar [i, j, l] [fa, fb, fc])) :=
  PS.imp (ps_par3 hc hN hi hj hl hij hil hjl hx hy hz (pa_cons ha (pa_cons hb (pa_cons hd pa_nil s3) s2) s1) hw hs) fun D σ H h =>
    LAo.three (LAo.imp (fun vs H ⟨hl, q⟩ => by
      match vs, hl, q with
      | [v, w, z], _, q => exact ⟨v, w, z, rfl, q⟩) (LAo.len (LS.par hp h)))
end
/-! ### target = e -/
def sAsg (f : DE) (t : GT) : DS := bS f fun a => fun ρ => match toD ρ (nrm a) with
  | some (x, ρ1) => (t x ρ1).map fun ρ2 => (.nx, ρ2)
  | none => none
theorem LS.asg {t : GT} {D0 : Ends} {σ : L2.St} {H : Hp} (h : LS K mg W pr (sAsg f t) D0 σ H) : tAsg (LE K mg W f) (LG K pr t) D0 σ H := by
  obtain ⟨ρ, F, c, ρ', rs, e, q⟩ := h
  refine LE.bindS rs e q fun a v ρ1 F1 H1 rs1 g1 rr e1 => ?_
  obtain ⟨F2, rs2, g2, ro⟩ := opnd_of rs1 g1 rr
  cases z : toD ρ1 (nrm a) with
  | none => rw [z] at e1; cases e1
  | some w =>
    obtain ⟨x, ρ2⟩ := w
    rw [z] at e1
    dsimp only at e1
    obtain ⟨F3, rs3, g3, rx⟩ := toD_ok rs2 ro z
    cases y : t x ρ2 with
    | none => rw [y] at e1; cases e1
    | some ρ3 =>
      rw [y] at e1
      cases e1
      exact ⟨ρ2, F3, x, _, rs3, rx, y, fun σ' F' H' rs' g' p' => q σ' F' H' rs' (g2.trans (g3.trans g')) p'⟩
theorem ps_asgD {X : Cx} {tg e : Expr} {t : GT} {pos : Pos} (he : PE X e (LE (kj J X) X.mg W f)) (hg : PG X tg (LG (kj J X) pr t)) (hs : swapsWithSole [tg] e pos.line X.env = pure false := by rfl) (hw : swappedStores [tg] e X.env = pure none := by rfl)
    (h1 : (assignEach [tg] X.env).map (·.2) = [assign tg X.env] := by rfl) : PS X (.Assign [tg] e pos) (LS (kj J X) X.mg W pr (sAsg f t)) := PS.imp (ps_asg he hg hs hw h1) fun _ _ _ h => LS.asg h
/-! ### xs[i] = e, xs a list of one's own -/
def stIx (o : R) (x : D) (i : D) : DS := fun ρ => match o, i with
  | .s j, .int k => (match gt ρ j with
    | some (.o (.lst ds)) => (match ixN ds.length k with
      | some m => some (.nx, ρ.set j (some (.o (.lst (ds.set m x)))))
      | none => none)
    | _ => none)
  | _, _ => none
def sStI (fv fo fi : DE) : DS := bS fv fun a => bS fo fun o => bS fi fun i => fun ρ => match toD ρ (nrm a) with
  | some (x, ρ1) => (match pk ρ1 (nrm i) with
    | some k => stIx o x k ρ1
    | none => none)
  | none => none
theorem LS.stI {fv fo fi : DE} {D0 : Ends} {σ : L2.St} {H : Hp} (h : LS K mg W pr (sStI fv fo fi) D0 σ H) : tAsg (LE K mg W fv) (gSub (LE K mg W fo) (LE K mg W fi) rSetL) D0 σ H := by
  obtain ⟨ρ, F, c, ρ', rs, e, q⟩ := h
  refine LE.bindS rs e q fun a v ρ1 F1 H1 rs1 g1 rr e1 => ?_
  obtain ⟨F1', rs1', g1', ro⟩ := opnd_of rs1 g1 rr
  refine LE.bindS rs1' e1 (q.shift g1' fun _ _ => rfl) fun o w ρ2 F2 H2 rs2 g2 rr2 e2 => ?_
  refine LE.bindS rs2 e2 ((q.shift g1' fun _ _ => rfl).shift g2 fun _ _ => rfl) fun i u ρ3 F3 H3 rs3 g3 rr3 e3 => ?_
  obtain ⟨F3', rs3', g3', ro3⟩ := opnd_of rs3 g3 rr3
  have g123 := g1'.trans (g2.trans g3')
  have ro' := ro.sub (g2.trans g3').mono
  cases z : toD ρ3 (nrm a) with
  | none => rw [z] at e3; cases e3
  | some y =>
    obtain ⟨x, ρ4⟩ := y
    rw [z] at e3
    dsimp only at e3
    obtain ⟨F4, rs4, g4, rx⟩ := toD_ok rs3' ro' z
    cases zi : pk ρ4 (nrm i) with
    | none => rw [zi] at e3; cases e3
    | some k =>
      rw [zi] at e3
      dsimp only at e3
      have pki := pk_ok rs4 (ro3.sub g4.mono) zi
      unfold stIx at e3
      cases o with
      | s j =>
        cases k with
        | int k =>
          dsimp only at e3
          have hw : σ[j]? = some (some w) := rr2.1
          cases pki.int
          cases zg : gt ρ4 j with
          | none => rw [zg] at e3; cases e3
          | some s =>
            rw [zg] at e3
            cases s with
            | d _ => cases e3
            | x _ => cases e3
            | o y =>
              cases y with
              | lst ds =>
                dsimp only at e3
                obtain ⟨p, q1, q2, ob, q3, q4⟩ := rs4.own j _ zg
                rw [hw] at q1
                cases q1
                cases ob with
                | lst us =>
                  cases zn : ixN ds.length k with
                  | none => rw [zn] at e3; cases e3
                  | some m =>
                    rw [zn] at e3
                    cases e3
                    have q4 : Reps K F4 ds us := q4
                    refine ⟨p, us, k, m, rfl, rfl, q3, by rw [← q4.length]; exact zn, ?_⟩
                    obtain ⟨a1, a2⟩ := own_set (y := .lst (ds.set m x)) (o := .lst (us.set m v)) rs4 zg hw (Reps.set rx m q4)
                    exact q σ F4 _ a1 (g123.trans (g4.trans a2)) fun _ _ => rfl
                | _ => exact q4.elim
              | _ => cases e3
        | _ => cases e3
      | _ => cases e3
theorem ps_stID {X : Cx} {e o i : Expr} {fv fo fi : DE} {pos p' : Pos} (he : PE X e (LE (kj J X) X.mg W fv)) (ho : PE X o (LE (kj J X) X.mg W fo)) (hi : PE X i (LE (kj J X) X.mg W fi))
    (ha : ∀ v, assign (.Subscript o i p') X.env v = (do let ov ← holding [v] (eval o X.env); let iv ← holding [v, ov] (eval i X.env); standAt p'; holding [v, ov, iv] (setItem ov iv v); release [v, ov, iv] []) := by intro _; rfl)
    (hs : swapsWithSole [.Subscript o i p'] e pos.line X.env = pure false := by rfl) (hw : swappedStores [.Subscript o i p'] e X.env = pure none := by rfl) (h1 : (assignEach [.Subscript o i p'] X.env).map (·.2) = [assign (.Subscript o i p') X.env] := by rfl) :
    PS X (.Assign [.Subscript o i p'] e pos) (LS (kj J X) X.mg W pr (sStI fv fo fi)) := PS.imp (ps_asg he (pg_sub ho hi set_list ha) hs hw h1) fun _ _ _ h => LS.stI h
/-! ### comprehensions -/
theorem PTs.imp {X : Cx} {e : List Expr} {t t' : TT} (h : PTs X e t) (i : ∀ σ H Q, t' σ H Q → t σ H Q) : PTs X e t' := ⟨fun pins s σ H Q I q => h.run pins s σ H Q I (i σ H Q q)⟩
theorem pts_nilD {X : Cx} : PTs X [] (LT (kj J X) X.mg W (rE true)) := PTs.imp pts_nil fun σ H Q h => by
  obtain ⟨ρ, F, r, ρ', rs, e, q⟩ := h
  cases e
  exact q F H rs Gr.refl
theorem pe_lcD {X : Cx} {elt tg iter : Expr} {ifs : List Expr} {scope : Scope} (own : List (Str × Nat)) {pos : Pos} {it : Dx (List D)} {t : GT} {tt : Dx Bool} {fe : DE} (hc : X.calm = true) (hN : X.N.Nodup) (hi : PI X tg iter (LI (kj J X) X.mg W it)) (ok : BlkOk X.N X.env.scope scope own) (hl : GLen t)
    (hg : ∀ (s : Shared) (H : Hp) (C : Addr) (cl : List (Str × Addr)) (fp : List Addr), PG (X.blk s H scope (compEnvC scope cl C X.env) fp) tg (LG (kj J X) (cpr (own.map (·.2))) t)) (ht : ∀ (s : Shared) (H : Hp) (C : Addr) (cl : List (Str × Addr)) (fp : List Addr), PTs (X.blk s H scope (compEnvC scope cl C X.env) fp) ifs (LT (kj J X) X.mg noX tt))
    (he : ∀ (s : Shared) (H : Hp) (C : Addr) (cl : List (Str × Addr)) (fp : List Addr), PE (X.blk s H scope (compEnvC scope cl C X.env) fp) elt (LE (kj J X) X.mg noX fe)) (hs : ∀ x, foldedSetIterable iter X.env x = pure x := by intro _; rfl) :
    PE X (.ListComp elt [⟨tg, iter, ifs, 0⟩] scope pos) (LE (kj J X) X.mg W (xLc it (own.map (·.2)) t tt fe)) := PE.imp (pe_lc hc hN hi ok hg ht he hs) fun _ _ _ h => LE.comp hl h
theorem ps_setLcD {X : Cx} {elt tg iter : Expr} {ifs : List Expr} {scope : Scope} (own : List (Str × Nat)) {pos spos py : Pos} {i : Nat} {ny : Str} {it : Dx (List D)} {t : GT} {tt : Dx Bool} {fe : DE} (hp : pr i = false) (hc : X.calm = true) (hN : X.N.Nodup) (hy : X.N[i]? = some ny) (hyl : X.env.scope.names.lookup ny = some .local)
    (hsw : swapsWith (.ListComp elt [⟨tg, iter, ifs, 0⟩] scope pos) (some (.Name ny py)) spos.line X.env = pure true) (hi : PI X tg iter (LI (kj J X) X.mg W it)) (ok : BlkOk X.N X.env.scope scope own) (hl : GLen t)
    (hg : ∀ (s : Shared) (H : Hp) (C : Addr) (cl : List (Str × Addr)) (fp : List Addr), PG (X.blk s H scope (compEnvC scope cl C X.env) fp) tg (LG (kj J X) (cpr (own.map (·.2))) t)) (ht : ∀ (s : Shared) (H : Hp) (C : Addr) (cl : List (Str × Addr)) (fp : List Addr), PTs (X.blk s H scope (compEnvC scope cl C X.env) fp) ifs (LT (kj J X) X.mg noX tt))
    (he : ∀ (s : Shared) (H : Hp) (C : Addr) (cl : List (Str × Addr)) (fp : List Addr), PE (X.blk s H scope (compEnvC scope cl C X.env) fp) elt (LE (kj J X) X.mg noX fe)) (hs : ∀ x, foldedSetIterable iter X.env x = pure x := by intro _; rfl) :
    PS X (.Assign [.Name ny py] (.ListComp elt [⟨tg, iter, ifs, 0⟩] scope pos) spos) (LS (kj J X) X.mg W pr (sSet i (xLc it (own.map (·.2)) t tt fe))) := PS.imp (ps_setLc hc hN hy hyl hsw hi ok hg ht he hs) fun D σ H h => LE.comp hl (LS.set hp h)
end
end Dn
end

section
set_option Elab.async false
set_option linter.all false
set_option maxRecDepth 100000
set_option maxHeartbeats 4000000
/-! Dn: enumerate(..) of a tuple. -/
namespace Dn
open PySem PySem.Spec
open AutoSeq1 (wpAny_loadPart')
theorem meets_enumerate_newT (l : Addr) (items : Array Value) (n : Nat) (dct : Option Addr) (sl : Array (Option Value)) :
    Meets (Builtin.«enumerate.__new__» ⟨[.type "enumerate", .ref l], []⟩) (fun _ R s => s.heap.get? l = some { cls := .type "tuple", dict := dct, data := .seq items n, slots := sl } ∧
      R (.ok (.ret (.ref (s.heap.push { cls := .type "tuple_iterator", data := .fields #[.ref l, .int 0 0] }).objs.size)))
        { s with heap := (s.heap.push { cls := .type "tuple_iterator", data := .fields #[.ref l, .int 0 0] }).push { cls := .type "enumerate", data := .fields #[.none, .bool false, .ref s.heap.objs.size, rawInt 0, .none, .none] } }) :=
  .of_wp fun prog w A R s h => by
    obtain ⟨hp, g, d, tk, os⟩ := s; obtain ⟨hl, h⟩ := h
    have hsub := sub_enumerate
    have hL : Heap.IsTuple (Shared.heap ⟨hp, g, d, tk, os⟩) l items := ⟨_, hl, rfl, n, rfl⟩
    wp_walk using wpAny_loadPart' hl
    refine wpAny_stack_any fun st => wpAny_pure ?_
    split
    · rename_i c _ _ _ _ _
      cases (c == Value.type "enumerate")
      · wp_walk using wpAny_loadPart' hl, wpAny_pyIter_tuple hL
        exact ⟨_, rfl, h⟩
      · wp_walk using wpAny_loadPart' hl, wpAny_pyIter_tuple hL
        exact ⟨_, rfl, h⟩
    · wp_walk using wpAny_loadPart' hl, wpAny_pyIter_tuple hL
      exact ⟨_, rfl, h⟩
theorem drawsT {prog : Program} {w : World} {A : Around} (hh : A.handled = none) (it l : Addr) (hne : l ≠ it) (items : Array Value) :
    Draws prog w A it [it, l] items.size (fun i v => items[i]? = some v) (fun i h => h.IsTupleIter it l i ∧ h.IsTuple l items) where
  live := fun _ _ st => let ⟨o, ho, _⟩ := st.1; ⟨o, ho⟩
  frame := fun _ _ _ st hk => ⟨let ⟨o, ho, r⟩ := st.1; ⟨o, hk it (by simp) o ho, r⟩, let ⟨o, ho, r⟩ := st.2; ⟨o, hk l (by simp) o ho, r⟩⟩
  item := fun i s Q E hi st hQ => by
    refine RZ.nextOf_tuple_item st.1 st.2 (x := items[i]) (by simp [hi]) fun h' hit' hs' => ?_
    exact hQ _ h' s.toks (by simp [hi]) ⟨hit', st.2.extBut hs'.extBut hne⟩ hs'
  done := fun s Q E st hE => RZ.nextOf_tuple_end hh st.1 st.2 (by simp) hE
section
variable {prog : Program} {w : World} {A : Around} {E : Value → Shared → Prop} {s : Shared}
theorem call_enumerate_tuple {l : Addr} {items : Array Value} {Q : Value → Shared → Prop} (hL : s.heap.IsTuple l items)
    (h : ∀ h', IsEnum h' (s.heap.objs.size + 1) s.heap.objs.size 0 .none → h'.IsTupleIter s.heap.objs.size l 0 → h'.objs.size = s.heap.objs.size + 2 →
      (∀ b o, s.heap.get? b = some o → h'.get? b = some o) → Q (.ref (s.heap.objs.size + 1)) { s with heap := h' }) :
    wpAny (model prog w) A (call (.type "enumerate") [.ref l]) Q E s := by
  obtain ⟨⟨c, dct, dt, sl⟩, hl, hc, n, hd⟩ := hL
  replace hc : c = .type "tuple" := hc
  replace hd : dt = .seq items n := hd
  subst hc hd
  refine callType_new F.called_enumerate (by decide) (F.typeCall_enumerate_1 _) (F.newCall_enumerate_1 _) (fun obj => F.args_object_init_2 obj _) F.entry_enumerate_new
    (meets_enumerate_newT l items n dct sl) ⟨hl, ?_⟩
  have hz : (s.heap.push { cls := .type "tuple_iterator", data := .fields #[.ref l, .int 0 0] }).objs.size = s.heap.objs.size + 1 := Heap.size_push ..
  show _ ∧ _
  rw [hz]
  have he : IsEnum ((s.heap.push { cls := .type "tuple_iterator", data := .fields #[.ref l, .int 0 0] }).push
      { cls := .type "enumerate", data := .fields #[.none, .bool false, .ref s.heap.objs.size, rawInt 0, .none, .none] }) (s.heap.objs.size + 1) s.heap.objs.size 0 .none := by
    have := Heap.get?_push_size (s.heap.push { cls := .type "tuple_iterator", data := .fields #[.ref l, .int 0 0] })
      (o := { cls := .type "enumerate", data := .fields #[.none, .bool false, .ref s.heap.objs.size, rawInt 0, .none, .none] }) rfl
    rw [hz] at this; exact this
  refine ⟨⟨_, he, rfl⟩, h _ he ⟨_, Heap.get?_push_of_some _ (Heap.get?_push_size _ rfl), rfl, rfl⟩ (by rw [Heap.size_push, hz]) fun b o x => Heap.get?_push_of_some _ (Heap.get?_push_of_some _ x)⟩
end
open L2 PyProof.Rows
/-- the tuple at a, each item in a new pair -/
def IteT (K : PySem.W.Frag) (a : Addr) : It :=
  ⟨fun i H => ∃ (xs : List V) (x : V), SqT K H a xs ∧ xs[i]? = some x, fun i H v H' => ∃ T x, v = .ref T ∧ H T = none ∧ H' = upd H T (.tup [.int (i : Nat), x]) ∧ ∀ xs, SqT K H a xs → xs[i]? = some x, fun i H => ∃ xs : List V, SqT K H a xs ∧ xs.length ≤ i⟩
theorem turn_enumT {P : Program} {w : World} {K : PySem.W.Frag} {elts : List Expr} {kk : Nat} {tpos : Pos} (a e it : Addr) (items : Array Value) :
    Turn P w K (.Tuple elts kk tpos) (IteT K a) [e, it] e (fun i h => (∃ old, IsEnum h e it ((i : Nat) : Int) old) ∧ h.IsTupleIter it a i ∧ e ≠ it) where
  mem := by simp
  obj := fun i h st b hb => by
    obtain ⟨⟨old, he⟩, ⟨o, ho, hc, hd⟩, _⟩ := st
    have e' : b = e ∨ b = it := by simpa using hb
    rcases e' with z | z
    · rw [z]; exact ⟨_, he, fun v q => nomatch q⟩
    · rw [z]; exact ⟨o, ho, fun v q => by rw [hd] at q; cases q⟩
  keep := fun i h h' st k => let ⟨⟨old, he⟩, ⟨o, ho, r⟩, hne⟩ := st; ⟨⟨old, k e (by simp) _ he⟩, ⟨o, k it (by simp) o ho, r⟩, hne⟩
  item := by
    intro X hP hw hK hc i pins s σ H E I hf st hg
    subst hP hw hK
    obtain ⟨⟨old, he⟩, hit, hne⟩ := st
    obtain ⟨xs, x, hq, hx⟩ := hg
    obtain ⟨its, rv, p, hz⟩ := I.tuple hq
    have p : s.heap.IsTuple a its.toArray := p
    obtain ⟨u, hu, ru⟩ := rv.get hx
    have hel : e < s.heap.objs.size := Heap.lt_size he
    have hil : it < s.heap.objs.size := by obtain ⟨_, q, _⟩ := hit; exact Heap.lt_size q
    have hai : a ≠ it := fun z => by
      obtain ⟨o1, q1, c1, _⟩ := p
      obtain ⟨o2, q2, c2, _⟩ := hit
      rw [z, q2] at q1
      cases q1
      rw [c1] at c2
      exact absurd (Value.type.inj c2) (by decide)
    have hae : a ≠ e := fun z => by
      obtain ⟨o1, q1, c1, _⟩ := p
      have he : s.heap.get? e = _ := he
      rw [z, he] at q1
      cases q1
      exact absurd (Value.type.inj c1) (by decide)
    have hli : i < its.toArray.size := by
      have := (List.getElem?_eq_some_iff.mp hu).1
      simpa using this
    refine wpAny_pyNext_enum_itemD (drawsT (A := X.A.in1) (I.ok.hd hc) it a hai its.toArray) he ⟨hit, p⟩ hli hne (by simp [hne]; exact fun z => hae z.symm) fun y h' tk hy ho hst hT hsz hk => ?_
    have ey : y = u := by
      have hu' : its.toArray[i]? = some u := by simpa using hu
      exact Option.some.inj (hy.symm.trans hu')
    subst ey
    obtain ⟨hit', _⟩ := hst
    refine ⟨_, rfl, wpAny_letOwnedTupleGo_enum (s := { s with heap := h', toks := tk + 1 }) ho fun h'' he' sb => ?_⟩
    have hT2 : h''.get? s.heap.objs.size = some { cls := .type "tuple", data := .seq #[.int i tk, y] } := (sb.2 _ (Nat.ne_of_gt hel)).trans hT
    have new : ObjOk X.prog X.w (upd H s.heap.objs.size (.tup [.int (i : Nat), x])) h'' s.heap.objs.size (.tup [.int (i : Nat), x]) :=
      ⟨by show 2 ≤ sizeLine; decide, [.int i tk, y], .cons ⟨_, rfl⟩ (.cons ru .nil), ⟨_, hT2, rfl, _, rfl⟩⟩
    have I1 : Inv X pins σ (upd H s.heap.objs.size (.tup [.int (i : Nat), x])) { s with heap := h'', toks := tk + 1 } :=
      I.turnedNew (ch := [e, it]) (fun b ob hb q => (sb.2 b (fun z => hb (by simp [z]))).trans (hk b ob (fun z => hb (by simp [z])) (fun z => hb (by simp [z])) q)) hf (Nat.le_refl _) new
    refine ⟨.ref s.heap.objs.size, _, I1, rfl, ⟨_, x, rfl, I.hok.fresh (Nat.le_refl _), rfl, fun ys hy => by rw [I.tuple_inj hy hq]; exact hx⟩, ⟨⟨y, ?_⟩, ?_, hne⟩, fun b hb => ?_⟩
    · have e1 : ((i + 1 : Nat) : Int) = (i : Int) + 1 := by omega
      rw [e1]; exact he'
    · obtain ⟨o, q, r⟩ := hit'
      exact ⟨o, (sb.2 it (Ne.symm hne)).trans q, r⟩
    · have hb' : b < s.heap.objs.size := by
        have e' : b = e ∨ b = it := by simpa using hb
        rcases e' with z | z
        · rw [z]; exact hel
        · rw [z]; exact hil
      rw [upd_ne (Nat.ne_of_lt hb')]
      exact (hf b hb).1
  done := by
    intro X hP hw hK hc i pins s σ H E I hf st hg
    subst hP hw hK
    obtain ⟨⟨old, he⟩, hit, hne⟩ := st
    obtain ⟨xs, hq, hx⟩ := hg
    obtain ⟨its, rv, p, hz⟩ := I.tuple hq
    have p : s.heap.IsTuple a its.toArray := p
    obtain ⟨f0, f1, f2, f3, f4, f5⟩ := hf it (by simp)
    have hl := rv.length
    have hT : s.TypeIs (.ref e) "enumerate" := ⟨_, he, rfl⟩
    unfold pyNext
    refine wpAny_bind (wpAny_attempt (wpAny_callSpecial?_slot (name := Str.ofString "__next__") hT F.slot_enumerate_next
      (wpAny_call_entry F.slot_enumerate_next hT F.entry_enumerate_next ?_ (F.args_enumerate_next_1 _))))
    show wpAny _ _ (field (.ref e) 2 >>= _) _ _ _
    refine wpAny_bind (wpAny_field he rfl (x := .ref it) rfl ?_)
    refine wpAny_bind (RZ.nextOf_tuple_end (A := X.A.in1) (I.ok.hd hc) hit p (by simp; omega) fun h' x he' hx' => ?_)
    obtain ⟨o, ho, hcl⟩ := hx'
    refine wpAny_bind (wpAny_isInstance (T := "StopIteration") (b := true) ⟨o, ho, hcl⟩ isSubtype_stop ?_)
    exact wpAny_pure ⟨rfl, I.turned (t' := s.toks) (fun b o hb q => he' b o hb q) f0 f1 f3 f4 f5⟩
  self := fun A i s Q E st h => let ⟨⟨_, he⟩, _⟩ := st; wpAny_pyIter_enum he h
def iEnumA (K : PySem.W.Frag) (ta : TA) : TI := fun σ H R => ta σ H fun vs H1 => ∃ a, vs = [.ref a] ∧ (((∃ xs, SqL K H1 a xs) ∧ R (Ite K a) H1) ∨ ((∃ xs, SqT K H1 a xs) ∧ R (IteT K a) H1))
theorem pi_enumA {X : Cx} {e : Expr} {ta : TA} {p pos tpos : Pos} {elts : List Expr} {kk : Nat} (hg : Gl X "enumerate") (hm : X.mg "enumerate" = none) (ha : PA X [e] ta) (hs : starEach [e] X.env = [(false, eval e X.env)] := by rfl) :
    PI X (.Tuple elts kk tpos) (.Call (.Name "enumerate" p) [e] [] pos) (iEnumA X.K ta) := by
  refine ⟨fun pins s σ H R I h => ?_⟩
  refine Call_ (ld_blt I hg hm boot_enumerate (PyProof.Rows.callWith_type1 (thn (ha.run pos pins s σ H _ I h) fun us s1 ⟨vs, H1, I1, r1, q1⟩ => ?_) hs rfl))
  obtain ⟨a, ex, q1⟩ := q1
  subst ex
  cases r1 with
  | cons r rr =>
    cases rr
    cases r
    have fr : ∀ b ∈ [s1.heap.objs.size + 1, s1.heap.objs.size], FpOk X pins H1 b := fun b hb => by
      have e' : b = s1.heap.objs.size + 1 ∨ b = s1.heap.objs.size := by simpa using hb
      have hle : s1.heap.objs.size ≤ b := by
        rcases e' with z | z
        · rw [z]; exact Nat.le_add_right _ _
        · rw [z]; exact Nat.le_refl _
      exact I1.fpOk hle (I1.hok.fresh hle)
    rcases q1 with ⟨⟨xs, hq⟩, q⟩ | ⟨⟨xs, hq⟩, q⟩
    · obtain ⟨its, rv, p', hz⟩ := I1.list hq
      refine call_enumerate_list p'.isList fun h' he hit hsz hk => wpAny_pyIter_enum he ?_
      exact ⟨s1.heap.objs.size + 1, [s1.heap.objs.size + 1, s1.heap.objs.size], _, _, H1, rfl, I1.kept (t' := s1.toks) hk, turn_enum a (s1.heap.objs.size + 1) s1.heap.objs.size, ⟨⟨.none, he⟩, hit, Nat.succ_ne_self _⟩, fr, q⟩
    · obtain ⟨its, rv, p', hz⟩ := I1.tuple hq
      refine call_enumerate_tuple (show s1.heap.IsTuple a its.toArray from p') fun h' he hit hsz hk => wpAny_pyIter_enum he ?_
      exact ⟨s1.heap.objs.size + 1, [s1.heap.objs.size + 1, s1.heap.objs.size], _, _, H1, rfl, I1.kept (t' := s1.toks) hk, turn_enumT a (s1.heap.objs.size + 1) s1.heap.objs.size its.toArray, ⟨⟨.none, he⟩, hit, Nat.succ_ne_self _⟩, fr, q⟩
theorem gives_enumT {K : Fg} {a : Addr} {ds : List D} {xs : List V} {F0 : Hp} (h : SqT K F0 a xs) (r : Reps K F0 ds xs) : Gives K (IteT K a) (pairs (rng 0 ds.length) ds) F0 := by
  intro i F H s1 s2
  have q : SqT K H a xs := SqT.sub s2 (SqT.sub s1 h)
  have hl : (pairs (rng 0 ds.length) ds).length = ds.length := by simp [pairs, rng]
  refine ⟨fun h => ⟨xs, q, by rw [← r.length, ← hl]; exact h⟩, fun d hd => ?_⟩
  have hi : i < ds.length := by
    have := (List.getElem?_eq_some_iff.mp hd).1
    omega
  obtain ⟨v, hv, rv⟩ := r.get (List.getElem?_eq_getElem hi)
  have ed : d = .tup [.int ((i : Nat) : Int), ds[i]] := by
    have e1 : (pairs (rng 0 ds.length) ds)[i]? = some (.tup [.int ((i : Nat) : Int), ds[i]]) := by
      have l1 : i < (pairs (rng 0 ds.length) ds).length := by rw [hl]; exact hi
      rw [List.getElem?_eq_getElem l1]
      simp [pairs, rng]
    rw [e1] at hd
    exact (Option.some.inj hd).symm
  subst ed
  refine ⟨⟨xs, v, q, hv⟩, fun w H' ⟨T, x, e1, hT, e2, hx⟩ => ?_⟩
  have := hx xs q
  rw [hv] at this
  cases this
  subst e1
  have fT : F T = none := by
    cases z : F T with
    | none => rfl
    | some o => rw [s2 _ _ z] at hT; cases hT
  have sb : Sub F (upd F T (.tup [.int ((i : Nat) : Int), v])) := fun c u e => by rw [upd_ne (fun z => by rw [z, fT] at e; cases e)]; exact e
  exact ⟨_, .inr ⟨T, _, hT, rfl, e2⟩, .tup upd_same (.cons (.int _) (.cons (rv.sub (s1.trans sb)) .nil))⟩
def kEnumA (x : D) : Option (List D) := match x with
  | .lst ds => some (pairs (rng 0 ds.length) ds)
  | .tup ds => some (pairs (rng 0 ds.length) ds)
  | _ => none
theorem pi_enumAD {X : Cx} {W : WX} {f : DE} {e : Expr} {p pos tpos : Pos} {elts : List Expr} {kk : Nat} (hg : Gl X "enumerate") (hm : X.mg "enumerate" = none) (ha : PE X e (LE (kj J X) X.mg W f)) (hs : starEach [e] X.env = [(false, eval e X.env)] := by rfl)
    (hs2 : starEach (e :: []) X.env = (false, eval e X.env) :: starEach [] X.env := by rfl) : PI X (.Tuple elts kk tpos) (.Call (.Name "enumerate" p) [e] [] pos) (LI (kj J X) X.mg W (itD f kEnumA)) :=
  PI.imp (pi_enumA hg hm (pa_one ha hs2) hs) fun σ H R0 h => LI.dat h fun x v ds ρ F H1 rs rp e q => by
    cases rp with
    | lst h1 h2 =>
      cases e
      exact ⟨_, rfl, .inl ⟨⟨_, SqL.of (rs.sub _ _ h1)⟩, q _ (gives_enum h1 h2)⟩⟩
    | tup h1 h2 =>
      cases e
      exact ⟨_, rfl, .inr ⟨⟨_, SqT.of (rs.sub _ _ h1)⟩, q _ (gives_enumT (SqT.of h1) h2)⟩⟩
    | _ => cases e
end Dn
end

section
set_option Elab.async false
set_option linter.all false
set_option maxRecDepth 100000
set_option maxHeartbeats 4000000
/-! Dn: defs by name; the head's end. -/
namespace Dn
open PySem PySem.Spec L2
abbrev kn (K : PySem.W.Frag) : KP := ⟨K, Lk.no⟩
section
variable {K : PySem.W.Frag} {mg : MG} {W : WX} {t : Dx Bool} {f : DE}
section
variable {X : Cx} {a : Expr} {pos : Pos}
theorem pw_and1D (ha : PT X a (LT (kj J X) X.mg W t)) : PW X (.BoolOp .And [a] pos) (LT (kj J X) X.mg W t) := pw_and1 ha
theorem pw_or1D (ha : PT X a (LT (kj J X) X.mg W t)) : PW X (.BoolOp .Or [a] pos) (LT (kj J X) X.mg W t) := pw_or1 ha
end
/-- the def of the name nm is there, of the parameters ps, and is fn -/
structure Has (P : Program) (w : World) (K : PySem.W.Frag) (mg : MG) (base : Heap) (k : Nat) (nm : Str) (ps : List Str) (n : Nat) (fn : FD) : Prop where
  ex : ∃ fA fd, mg nm = some (.ref fA) ∧ PySem.W.keepIn K (.ref fA) = true ∧ Binds K fd ps [] ∧ FnG P w K mg base k fA fd ps (spD (kn K) mg n fn)
variable {P : Program} {w : World} {base : Heap} {j k : Nat} {nm : Str} {ps : List Str} {n : Nat} {fn : FD}
theorem Has.mono (h : Has P w K mg base j nm ps n fn) (hk : j ≤ k) : Has P w K mg base k nm ps n fn := by
  obtain ⟨fA, fd, a, b, c, d⟩ := h.ex
  exact ⟨fA, fd, a, b, c, d.mono hk⟩
/-- a def that gives nothing -/
theorem fn_zero {fA : Addr} {fd : FuncData} : FnG P w K mg base k fA fd ps (spD (kn K) mg n fun _ => none) :=
  ⟨fun vs H Q E ⟨ss, F, r, outs, _, _, e, _⟩ => (nomatch e), fun A outer s H args us vs Q E _ _ _ _ _ ⟨ss, F, r, outs, _, _, e, _⟩ => (nomatch e)⟩
theorem has_of {qual : Str} {params : Arguments} {body : List Stmt} {scope : Scope} {fA : Addr} {fd : FuncData} (F : FunD K nm qual params body scope [] [] fA fd) (g : mg nm = some (.ref fA)) (b : Binds K fd ps [])
    (h : FnG P w K mg base k fA fd ps (spD (kn K) mg n fn)) : Has P w K mg base k nm ps n fn := ⟨fA, fd, g, F.kp, b, h⟩
section
variable {X : Cx} {e : Expr} {es : List Expr} {fs : List DE} {p pos : Pos}
theorem pe_us (Hf : Has X.prog X.w X.K X.mg X.base k nm ps n fn) (hr : Room k X.A) (hG : X.A.guards = some []) (tk : Takes X W) (hg : Gl X nm) (ha : PA X (e :: es) (LA (kj Lk.no X) X.mg W fs)) (hn : fs.length = n := by rfl) (hdb : (nm == ("__debug__" : Str)) = false := by decide)
    (he : starEach (e :: es) X.env = (false, eval e X.env) :: starEach es X.env := by rfl) (hpl : (backTo pos (starEach es X.env)).any (·.1) = false := by rfl) : PE X (.Call (.Name nm p) (e :: es) [] pos) (LE (kj Lk.no X) X.mg W (dCall fn fs [])) := by
  obtain ⟨fA, fd, hm, hk, hb, Fn⟩ := Hf.ex
  exact pe_fnD Fn hr hG tk hg hm hk hb .nil (fun _ => .nil) (by rw [hn]; rfl) ha hdb he hpl
end
theorem _root_.L2.Room.un200 {k : Nat} {A : Around} (hr : Room k A) : A.units + 200 < cLine := by
  have := hr.un
  omega
theorem _root_.L2.Room.un64 {k : Nat} {A : Around} (hr : Room k A) : A.units + 64 < cLine := by
  have := hr.un
  omega
theorem _root_.L2.Room.un65 {k : Nat} {A : Around} (hr : Room k A) : A.units + 65 < cLine := by
  have := hr.un
  omega
theorem pe_gloE {X : Cx} {nm : Str} {pos : Pos} {x : D} (hg : Gl X nm) (h : ∃ v u, X.mg nm = some u ∧ RelV v u ∧ ∀ F, Rep (kj J X) F x v) (hd : (nm == ("__debug__" : Str)) = false := by decide) : PE X (.Name nm pos) (LE (kj J X) X.mg W (xC x)) := by
  obtain ⟨v, u, h1, h2, h3⟩ := h
  exact pe_gloD hg h1 h2 h3 hd
/-- the law's entry -/
theorem entry {fn : FD} {H : Hp} {a : Addr} {ns : List Int} {outs : List Dn.S} (hS : SqL K H a (ns.map V.int)) (e : fn [.d (.src ns)] = some (.ok (.d (.bl true)), outs)) : spD (kn K) mg 1 fn [.ref a] H (fun v _ => v = .bl true) fun _ _ _ => False :=
  ⟨[.d (.src ns)], H, .ok (.d (.bl true)), outs, ⟨Sub.refl, rfl, fun i x h => by
    cases i with
    | zero =>
      cases h
      exact ⟨_, rfl, .src hS⟩
    | succ i => simp [sl, gt] at h, fun i x h => by
    cases i with
    | zero => cases h
    | succ i => simp [sl, gt] at h, fun i j x y p h => by
    cases i with
    | zero => cases h
    | succ i => simp [sl, gt] at h, fun i x h => by
    cases i with
    | zero => cases h
    | succ i => simp [sl, gt] at h⟩, rfl, e, fun F' H' rs g v rr => by
    cases rr
    rfl⟩
/-! ### a module's tuple of texts -/
def dvD : He.Dv → D
  | .bl b => .bl b
  | .int i => .int i
  | .str x => .str x
  | _ => .non
def flatDv : He.Dv → Bool
  | .non => true
  | .bl _ => true
  | .int _ => true
  | .str _ => true
  | _ => false
theorem reps_dv {F : Hp} : ∀ {vs : List He.Dv}, vs.all flatDv = true → Reps (kn K) F (vs.map dvD) (vs.map (He.Dv.v K))
  | [], _ => .nil
  | v :: vs, h => by
    rw [List.all_cons, Bool.and_eq_true] at h
    refine .cons ?_ (reps_dv h.2)
    cases v with
    | non => exact .non
    | bl b => exact .bl b
    | int i => exact .int i
    | str x => exact .str x
    | _ => cases h.1
theorem rep_tupB {x : Str} {vs : List He.Dv} (h : He.tupB K x vs = true) (hf : vs.all flatDv = true) (F : Hp) : Rep (kn K) F (.ktup (vs.map dvD)) (.ref (He.ga K x)) := .ktup (He.tupB_ok h F) (reps_dv hf)
end
end Dn
end

section
set_option Elab.async false
set_option linter.all false
set_option maxRecDepth 100000
set_option maxHeartbeats 4000000
/-! Dn: what a function on data gives, by its parts (no program in sight). -/
namespace Dn
open PySem PySem.Spec L2
@[irreducible] def wE {α : Type} (f : Dx α) (ρ : Env) (Q : α → Env → Prop) (E : Exn → Env → Prop) : Prop := match f ρ with
  | some (.ok a, ρ') => Q a ρ'
  | some (.error x, ρ') => E x ρ'
  | none => False
@[irreducible] def wS (g : DS) (ρ : Env) (Q : Ctl → Env → Prop) : Prop := match g ρ with
  | some (c, ρ') => Q c ρ'
  | none => False
@[irreducible] def wF (f : FD) (ss : List S) (Q : R → List S → Prop) (E : Exn → List S → Prop) : Prop := match f ss with
  | some (.ok r, o) => Q r o
  | some (.error x, o) => E x o
  | none => False
def wP {α : Type} (o : Option α) (P : α → Prop) : Prop := match o with
  | some x => P x
  | none => False
@[simp] theorem wP_some {α : Type} {x : α} {P : α → Prop} : wP (some x) P ↔ P x := Iff.rfl
@[simp] theorem wP_none {α : Type} {P : α → Prop} : wP none P ↔ False := Iff.rfl
theorem wP_ex {α : Type} {o : Option α} {P : α → Prop} : wP o P ↔ ∃ x, o = some x ∧ P x := by
  cases o <;> simp
theorem wP_map {α β : Type} {o : Option α} {f : α → β} {P : β → Prop} : wP (o.map f) P ↔ wP o fun x => P (f x) := by
  cases o <;> rfl
theorem wF.mono {f : FD} {ss : List S} {Q Q' : R → List S → Prop} {E E' : Exn → List S → Prop} (h : wF f ss Q E) (q : ∀ r o, Q r o → Q' r o) (e : ∀ x o, E x o → E' x o) : wF f ss Q' E' := by
  unfold wF at h ⊢
  cases z : f ss with
  | none => rw [z] at h; exact h
  | some w =>
    obtain ⟨r, o⟩ := w
    rw [z] at h
    cases r with
    | ok a => exact q _ _ h
    | error x => exact e _ _ h
theorem wS.mono {g : DS} {ρ : Env} {Q Q' : Ctl → Env → Prop} (h : wS g ρ Q) (q : ∀ c ρ', Q c ρ' → Q' c ρ') : wS g ρ Q' := by
  unfold wS at h ⊢
  cases z : g ρ with
  | none => rw [z] at h; exact h
  | some w => rw [z] at h; exact q _ _ h
theorem wE.mono {α : Type} {f : Dx α} {ρ : Env} {Q Q' : α → Env → Prop} {E E' : Exn → Env → Prop} (h : wE f ρ Q E) (q : ∀ r o, Q r o → Q' r o) (e : ∀ x o, E x o → E' x o) : wE f ρ Q' E' := by
  unfold wE at h ⊢
  cases z : f ρ with
  | none => rw [z] at h; exact h
  | some w =>
    obtain ⟨r, o⟩ := w
    rw [z] at h
    cases r with
    | ok a => exact q _ _ h
    | error x => exact e _ _ h
/-- the end of a proof about F -/
theorem wF.run {f : FD} {ss : List S} {Q : R → List S → Prop} (h : wF f ss Q fun _ _ => False) : ∃ r o, f ss = some (.ok r, o) ∧ Q r o := by
  unfold wF at h
  cases z : f ss with
  | none => rw [z] at h; exact h.elim
  | some w =>
    obtain ⟨r, o⟩ := w
    rw [z] at h
    cases r with
    | ok a => exact ⟨a, o, rfl, h⟩
    | error x => exact h.elim
/-! ### environments -/
@[simp] theorem gt_zero {a : Option S} {ρ : Env} : gt (a :: ρ) 0 = a := rfl
@[simp] theorem gt_succ {a : Option S} {ρ : Env} {i : Nat} : gt (a :: ρ) (i + 1) = gt ρ i := rfl
@[simp] theorem sd_d {x : D} : sd (some (.d x)) = some x := rfl
@[simp] theorem sd_o {x : D} : sd (some (.o x)) = some x := rfl
@[simp] theorem sd_n : sd none = none := rfl
@[simp] theorem pk_d {ρ : Env} {x : D} : pk ρ (.d x) = some x := rfl
@[simp] theorem pk_s {ρ : Env} {i : Nat} : pk ρ (.s i) = sd (gt ρ i) := rfl
@[simp] theorem nrm_d {x : D} : nrm (.d x) = .d x := rfl
@[simp] theorem nrm_o {x : D} : nrm (.o x) = .d x := rfl
@[simp] theorem nrm_s {i : Nat} : nrm (.s i) = .s i := rfl
@[simp] theorem pks_nil {ρ : Env} : pks ρ [] = some [] := rfl
@[simp] theorem pks_cons {ρ : Env} {a : R} {as : List R} {P : List D → Prop} : wP (pks ρ (a :: as)) P ↔ wP (pk ρ a) fun x => wP (pks ρ as) fun xs => P (x :: xs) := by
  show wP (match pk ρ a, pks ρ as with
    | some x, some xs => some (x :: xs)
    | _, _ => none) P ↔ _
  cases pk ρ a with
  | none => rfl
  | some x => cases pks ρ as <;> rfl
@[simp] theorem frz_d {ρ : Env} {j : Nat} {x : D} (h : gt ρ j = some (.d x)) : frzS ρ j = some (x, ρ) := by
  unfold frzS
  rw [h]
@[simp] theorem frz_o {ρ : Env} {j : Nat} {x : D} (h : gt ρ j = some (.o x)) : frzS ρ j = some (x, ρ.set j (some (.d x))) := by
  unfold frzS
  rw [h]
@[simp] theorem toD_d {ρ : Env} {x : D} : toD ρ (.d x) = some (x, ρ) := rfl
@[simp] theorem toD_o {ρ : Env} {x : D} : toD ρ (.o x) = some (x, ρ) := rfl
@[simp] theorem toD_s {ρ : Env} {j : Nat} : toD ρ (.s j) = frzS ρ j := rfl
@[simp] theorem toDs_nil {ρ : Env} {P : List D × Env → Prop} : wP (toDs ρ []) P ↔ P ([], ρ) := Iff.rfl
@[simp] theorem toDs_cons {ρ : Env} {a : R} {as : List R} {P : List D × Env → Prop} : wP (toDs ρ (a :: as)) P ↔ wP (toD ρ a) fun p => wP (toDs p.2 as) fun q => P (p.1 :: q.1, q.2) := by
  show wP (match toD ρ a with
    | some (x, ρ1) => (match toDs ρ1 as with
      | some (xs, ρ2) => some (x :: xs, ρ2)
      | none => none)
    | none => none) P ↔ _
  cases toD ρ a with
  | none => rfl
  | some w =>
    obtain ⟨x, ρ1⟩ := w
    show wP (match toDs ρ1 as with
      | some (xs, ρ2) => some (x :: xs, ρ2)
      | none => none) P ↔ _
    simp only [wP_some]
    cases toDs ρ1 as with
    | none => rfl
    | some w => rfl
section
variable {α β : Type} {ρ : Env} {f fa fb : DE} {x : D} {Q : R → Env → Prop} {E : Exn → Env → Prop} {i : Nat}
/-! ### expressions -/
@[simp] theorem wE_r {a : α} {Q : α → Env → Prop} : wE (rE a) ρ Q E ↔ Q a ρ := by unfold wE; rfl
@[simp] theorem wE_b {g : Dx α} {k : α → Dx β} {Q : β → Env → Prop} : wE (bE g k) ρ Q E ↔ wE g ρ (fun a ρ1 => wE (k a) ρ1 Q E) E := by
  unfold wE bE
  cases g ρ with
  | none => rfl
  | some w =>
    obtain ⟨r, ρ1⟩ := w
    cases r <;> rfl
@[simp] theorem wE_c : wE (xC x) ρ Q E ↔ Q (.d x) ρ := by unfold wE; rfl
def wV (s : Option S) (i : Nat) (ρ : Env) (Q : R → Env → Prop) : Prop := match s with
  | some (.d x) => Q (.d x) ρ
  | some (.o _) => Q (.s i) ρ
  | some (.x _) => False
  | none => False
@[simp] theorem wV_d : wV (some (.d x)) i ρ Q ↔ Q (.d x) ρ := Iff.rfl
@[simp] theorem wV_o : wV (some (.o x)) i ρ Q ↔ Q (.s i) ρ := Iff.rfl
@[simp] theorem wE_v : wE (xVar i) ρ Q E ↔ wV (gt ρ i) i ρ Q := by
  unfold wE xVar wV
  cases gt ρ i with
  | none => rfl
  | some s => cases s <;> rfl
@[simp] theorem wE_1 {k : D → Option R} : wE (o1 f k) ρ Q E ↔ wE f ρ (fun a ρ1 => wP (pk ρ1 (nrm a)) fun x => wP (k x) fun r => Q r ρ1) E := by
  unfold o1
  rw [wE_b]
  unfold wE
  cases f ρ with
  | none => rfl
  | some w =>
    obtain ⟨r, ρ1⟩ := w
    cases r with
    | error x => rfl
    | ok a =>
      dsimp only
      cases pk ρ1 (nrm a) with
      | none => rfl
      | some x =>
        unfold lft wP
        dsimp only
        cases k x <;> rfl
@[simp] theorem wE_2 {k : D → D → Option R} : wE (o2 fa fb k) ρ Q E ↔ wE fa ρ (fun a ρ1 => wE fb ρ1 (fun b ρ2 => wP (pk ρ2 (nrm a)) fun x => wP (pk ρ2 (nrm b)) fun y => wP (k x y) fun r => Q r ρ2) E) E := by
  unfold o2
  rw [wE_b]
  unfold wE
  cases fa ρ with
  | none => rfl
  | some w =>
    obtain ⟨r, ρ1⟩ := w
    cases r with
    | error x => rfl
    | ok a =>
      dsimp only
      unfold bE
      cases fb ρ1 with
      | none => rfl
      | some w =>
        obtain ⟨r, ρ2⟩ := w
        cases r with
        | error x => rfl
        | ok b =>
          dsimp only
          cases pk ρ2 (nrm a) with
          | none => rfl
          | some x =>
            cases pk ρ2 (nrm b) with
            | none => rfl
            | some y =>
              unfold lft wP
              dsimp only
              cases k x y <;> rfl
@[simp] theorem wE_A0 {Q : List R → Env → Prop} : wE (eA []) ρ Q E ↔ Q [] ρ := by unfold wE; rfl
@[simp] theorem wE_A {fs : List DE} {Q : List R → Env → Prop} : wE (eA (f :: fs)) ρ Q E ↔ wE f ρ (fun a ρ1 => wE (eA fs) ρ1 (fun as => Q (nrm a :: as)) E) E := by
  show wE (bE f fun a => bE (eA fs) fun as => rE (nrm a :: as)) ρ Q E ↔ _
  simp
@[simp] theorem wE_L0 {Q : List R → Env → Prop} : wE (eL []) ρ Q E ↔ Q [] ρ := by unfold wE; rfl
@[simp] theorem wE_L {fs : List DE} {Q : List R → Env → Prop} : wE (eL (f :: fs)) ρ Q E ↔ wE f ρ (fun a ρ1 => wE (eL fs) ρ1 (fun as => Q (a :: as)) E) E := by
  show wE (bE f fun a => bE (eL fs) fun as => rE (a :: as)) ρ Q E ↔ _
  simp
@[simp] theorem wE_N {fs : List DE} {k : List D → Option R} : wE (oN fs k) ρ Q E ↔ wE (eA fs) ρ (fun as ρ1 => wP (pks ρ1 as) fun xs => wP (k xs) fun r => Q r ρ1) E := by
  unfold oN
  rw [wE_b]
  unfold wE
  cases eA fs ρ with
  | none => rfl
  | some w =>
    obtain ⟨r, ρ1⟩ := w
    cases r with
    | error x => rfl
    | ok as =>
      dsimp only
      cases pks ρ1 as with
      | none => rfl
      | some xs =>
        unfold lft wP
        dsimp only
        cases k xs <;> rfl
theorem wE_D {fs : List DE} {k : List D → Option R} : wE (dN fs k) ρ Q E ↔ wE (eA fs) ρ (fun as ρ1 => wP (toDs ρ1 as) fun p => wP (k p.1) fun r => Q r p.2) E := by
  unfold dN
  rw [wE_b]
  unfold wE
  cases eA fs ρ with
  | none => rfl
  | some w =>
    obtain ⟨r, ρ1⟩ := w
    cases r with
    | error x => rfl
    | ok a =>
      dsimp only
      cases toDs ρ1 a with
      | none => rfl
      | some w =>
        obtain ⟨xs, ρ2⟩ := w
        unfold lft wP
        dsimp only
        cases k xs <;> rfl
@[simp] theorem wE_tup {fs : List DE} : wE (xTup fs) ρ Q E ↔ wE (eA fs) ρ (fun as ρ1 => wP (toDs ρ1 as) fun p => Q (.d (.tup p.1)) p.2) E := by
  unfold xTup
  rw [wE_D]
  rfl
@[simp] theorem wE_lst {fs : List DE} : wE (xLst fs) ρ Q E ↔ wE (eA fs) ρ (fun as ρ1 => wP (toDs ρ1 as) fun p => Q (.o (.lst p.1)) p.2) E := by
  unfold xLst
  rw [wE_D]
  rfl
@[simp] theorem wE_if {t : Dx Bool} : wE (xIf t fa fb) ρ Q E ↔ wE t ρ (fun b ρ1 => if b = true then wE fa ρ1 Q E else wE fb ρ1 Q E) E := by
  unfold xIf
  rw [wE_b]
  have : (fun (b : Bool) ρ1 => wE (if b = true then fa else fb) ρ1 Q E) = fun b ρ1 => if b = true then wE fa ρ1 Q E else wE fb ρ1 Q E := by
    funext b ρ1
    cases b <;> rfl
  rw [this]
section
variable {t t1 t2 : Dx Bool} {T : Bool → Env → Prop}
def wB (a : R) (ρ : Env) (T : Bool → Env → Prop) : Prop := match a with
  | .d (.bl b) => T b ρ
  | _ => False
@[simp] theorem wB_bl {b : Bool} : wB (.d (.bl b)) ρ T ↔ T b ρ := Iff.rfl
@[simp] theorem wE_tB : wE (tB f) ρ T E ↔ wE f ρ (fun a ρ1 => wB a ρ1 T) E := by
  unfold tB
  rw [wE_b]
  unfold wE
  cases f ρ with
  | none => rfl
  | some w =>
    obtain ⟨r, ρ1⟩ := w
    cases r with
    | error x => rfl
    | ok a =>
      cases a with
      | d x => cases x <;> rfl
      | _ => rfl
@[simp] theorem wE_tV : wE (tV f) ρ T E ↔ wE f ρ (fun a ρ1 => wP (pk ρ1 (nrm a)) fun x => wP (kTru x) fun b => T b ρ1) E := by
  unfold tV
  rw [wE_b]
  unfold wE
  cases f ρ with
  | none => rfl
  | some w =>
    obtain ⟨r, ρ1⟩ := w
    cases r with
    | error x => rfl
    | ok a =>
      dsimp only
      cases pk ρ1 (nrm a) with
      | none => rfl
      | some x =>
        simp only [Option.bind_some, wP_some]
        cases kTru x <;> rfl
@[simp] theorem wE_and : wE (tAn t1 t2) ρ T E ↔ wE t1 ρ (fun b ρ1 => if b = true then wE t2 ρ1 T E else T false ρ1) E := by
  unfold tAn
  rw [wE_b]
  have : (fun (b : Bool) ρ1 => wE (if b = true then t2 else rE false) ρ1 T E) = fun b ρ1 => if b = true then wE t2 ρ1 T E else T false ρ1 := by
    funext b ρ1
    cases b <;> simp
  rw [this]
@[simp] theorem wE_or : wE (tOrr t1 t2) ρ T E ↔ wE t1 ρ (fun b ρ1 => if b = true then T true ρ1 else wE t2 ρ1 T E) E := by
  unfold tOrr
  rw [wE_b]
  have : (fun (b : Bool) ρ1 => wE (if b = true then rE true else t2) ρ1 T E) = fun b ρ1 => if b = true then T true ρ1 else wE t2 ρ1 T E := by
    funext b ρ1
    cases b <;> simp
  rw [this]
@[simp] theorem wE_no : wE (tNo t) ρ T E ↔ wE t ρ (fun b ρ1 => T (!b) ρ1) E := by
  unfold tNo
  simp
end
/-! calls -/
@[simp] theorem toS_nil {P : List S → Prop} : wP (toS ρ []) P ↔ P [] := Iff.rfl
@[simp] theorem toS_d {as : List R} {P : List S → Prop} : wP (toS ρ (.d x :: as)) P ↔ wP (toS ρ as) fun ss => P (.d x :: ss) := by
  show wP ((toS ρ as).map (S.d x :: ·)) P ↔ _
  rw [wP_map]
@[simp] theorem toS_s {as : List R} {P : List S → Prop} : wP (toS ρ (.s i :: as)) P ↔ wP (gt ρ i) fun s => wP (toS ρ as) fun ss => P (s :: ss) := by
  show wP (match gt ρ i, toS ρ as with
    | some s, some ss => some (s :: ss)
    | _, _ => none) P ↔ _
  cases gt ρ i with
  | none => rfl
  | some s => cases toS ρ as <;> rfl
@[simp] theorem slots_nil : slots [] = [] := rfl
@[simp] theorem slots_s {as : List R} : slots (.s i :: as) = i :: slots as := rfl
@[simp] theorem slots_d {as : List R} : slots (.d x :: as) = slots as := rfl
@[simp] theorem wb_nil {os : List S} : wb ρ [] os = ρ := by cases os <;> rfl
@[simp] theorem wb_s {as : List R} {o : S} {os : List S} : wb ρ (.s i :: as) (o :: os) = wb (ρ.set i (some o)) as os := rfl
@[simp] theorem wb_d {as : List R} {o : S} {os : List S} : wb ρ (.d x :: as) (o :: os) = wb ρ as os := rfl
@[simp] theorem wE_call {fd : FD} {fs : List DE} {ds : List D} : wE (dCall fd fs ds) ρ Q E ↔ wE (eA fs) ρ (fun as ρ1 => wP (toS ρ1 as) fun ss => (slots as).Nodup ∧ wF fd (ss ++ ds.map .d) (fun r o => noS (.ok r) = true ∧ Q r (wb ρ1 as o)) fun x o => E x (wb ρ1 as o)) E := by
  unfold dCall
  rw [wE_b]
  unfold wE
  cases eA fs ρ with
  | none => rfl
  | some w =>
    obtain ⟨r, ρ1⟩ := w
    cases r with
    | error x => rfl
    | ok as =>
      dsimp only
      cases toS ρ1 as with
      | none => rfl
      | some ss =>
        simp only [wP_some]
        unfold cEnd wF
        cases fd (ss ++ ds.map .d) with
        | none => simp
        | some w =>
          obtain ⟨r, o⟩ := w
          dsimp only
          by_cases hn : (slots as).Nodup
          · cases r with
            | error x => simp [hn, noS]
            | ok a =>
              by_cases hs : noS (.ok a) = true
              · simp [hn, hs]
              · simp [hn, hs]
          · simp [hn]
/-! slices, methods -/
def wI (a : R) (P : Int → Prop) : Prop := match a with
  | .d (.int i) => P i
  | _ => False
@[simp] theorem wI_int {j : Int} {P : Int → Prop} : wI (.d (.int j)) P ↔ P j := Iff.rfl
@[simp] theorem wE_eNo {Q : Option Int → Env → Prop} : wE eNo ρ Q E ↔ Q none ρ := by unfold wE; rfl
@[simp] theorem wE_eI {Q : Option Int → Env → Prop} : wE (eI f) ρ Q E ↔ wE f ρ (fun a ρ1 => wI a fun i => Q (some i) ρ1) E := by
  unfold eI
  rw [wE_b]
  unfold wE
  cases f ρ with
  | none => rfl
  | some w =>
    obtain ⟨r, ρ1⟩ := w
    cases r with
    | error x => rfl
    | ok a =>
      cases a with
      | d x => cases x <;> rfl
      | _ => rfl
@[simp] theorem wE_sl {lo hi : Dx (Option Int)} : wE (xSl f lo hi) ρ Q E ↔ wE f ρ (fun a ρ1 => wE lo ρ1 (fun l ρ2 => wE hi ρ2 (fun h ρ3 => wP (pk ρ3 (nrm a)) fun x => wP (kSl x l h) fun r => Q r ρ3) E) E) E := by
  unfold xSl
  rw [wE_b]
  unfold wE
  cases f ρ with
  | none => rfl
  | some w =>
    obtain ⟨r, ρ1⟩ := w
    cases r with
    | error x => rfl
    | ok a =>
      dsimp only
      unfold bE
      cases lo ρ1 with
      | none => rfl
      | some w =>
        obtain ⟨r, ρ2⟩ := w
        cases r with
        | error x => rfl
        | ok l =>
          dsimp only
          cases hi ρ2 with
          | none => rfl
          | some w =>
            obtain ⟨r, ρ3⟩ := w
            cases r with
            | error x => rfl
            | ok h =>
              dsimp only
              cases pk ρ3 (nrm a) with
              | none => rfl
              | some x =>
                unfold lft wP
                dsimp only
                cases kSl x l h <;> rfl
@[simp] theorem wE_mR {T : String} {fs : List DE} {k : D → List D → Option R} : wE (mR T f fs k) ρ Q E ↔ wE f ρ (fun a ρ1 => tyD T (pk ρ1 (nrm a)) = true ∧ wE (eA fs) ρ1 (fun as ρ2 => wP (pk ρ2 (nrm a)) fun x => wP (pks ρ2 as) fun xs => wP (k x xs) fun r => Q r ρ2) E) E := by
  unfold mR
  rw [wE_b]
  unfold wE
  cases f ρ with
  | none => rfl
  | some w =>
    obtain ⟨r, ρ1⟩ := w
    cases r with
    | error x => rfl
    | ok a =>
      dsimp only
      by_cases h : tyD T (pk ρ1 (nrm a)) = true
      · simp only [h, if_true, true_and]
        unfold bE
        cases eA fs ρ1 with
        | none => rfl
        | some w =>
          obtain ⟨r, ρ2⟩ := w
          cases r with
          | error x => rfl
          | ok as =>
            dsimp only
            cases pk ρ2 (nrm a) with
            | none => rfl
            | some x =>
              cases pks ρ2 as with
              | none => rfl
              | some xs =>
                unfold lft wP
                dsimp only
                cases k x xs <;> rfl
      · simp [h]
def wOw (a : R) (P : Nat → Prop) : Prop := match a with
  | .s i => P i
  | _ => False
@[simp] theorem wOw_s {P : Nat → Prop} : wOw (.s i) P ↔ P i := Iff.rfl
def wGo (s : Option S) (P : List D → Prop) : Prop := match s with
  | some (.o (.lst ds)) => P ds
  | _ => False
@[simp] theorem wGo_l {ds : List D} {P : List D → Prop} : wGo (some (.o (.lst ds))) P ↔ P ds := Iff.rfl
@[simp] theorem isOwn_l {ds : List D} : isOwnL (some (.o (.lst ds))) = true := rfl
@[simp] theorem wE_mO {fs : List DE} {k : List D → List D → Option (List D × D)} : wE (mO f fs k) ρ Q E ↔ wE f ρ (fun a ρ1 => wOw a fun i => isOwnL (gt ρ1 i) = true ∧ wE (eA fs) ρ1 (fun as ρ2 => wP (toDs ρ2 as) fun p => wGo (gt p.2 i) fun ds => wP (k ds p.1) fun q => Q (.d q.2) (p.2.set i (some (.o (.lst q.1))))) E) E := by
  unfold mO
  rw [wE_b]
  unfold wE
  cases f ρ with
  | none => rfl
  | some w =>
    obtain ⟨r, ρ1⟩ := w
    cases r with
    | error x => rfl
    | ok a =>
      cases a with
      | d x => rfl
      | o x => rfl
      | s i =>
        dsimp only
        simp only [wOw_s]
        by_cases h : isOwnL (gt ρ1 i) = true
        · simp only [h, if_true, true_and]
          unfold bE
          cases eA fs ρ1 with
          | none => rfl
          | some w =>
            obtain ⟨r, ρ2⟩ := w
            cases r with
            | error x => rfl
            | ok as =>
              dsimp only
              cases toDs ρ2 as with
              | none => rfl
              | some w =>
                obtain ⟨xs, ρ3⟩ := w
                dsimp only
                simp only [wP_some]
                cases gt ρ3 i with
                | none => rfl
                | some s =>
                  cases s with
                  | d x => rfl
                  | x x => rfl
                  | o x =>
                    cases x with
                    | lst ds =>
                      simp only [wGo_l]
                      cases k ds xs with
                      | none => rfl
                      | some w => rfl
                    | _ => rfl
        · simp [h]
/-! what is walked -/
@[simp] theorem wE_seq {Q : List D → Env → Prop} : wE (itSeq f) ρ Q E ↔ wE f ρ (fun a ρ1 => wP (toD ρ1 (nrm a)) fun p => wP (seqOf p.1) fun ds => Q ds p.2) E := by
  unfold itSeq
  rw [wE_b]
  unfold wE
  cases f ρ with
  | none => rfl
  | some w =>
    obtain ⟨r, ρ1⟩ := w
    cases r with
    | error x => rfl
    | ok a =>
      dsimp only
      cases toD ρ1 (nrm a) with
      | none => rfl
      | some w =>
        obtain ⟨x, ρ2⟩ := w
        simp only [wP_some]
        cases seqOf x <;> rfl
@[simp] theorem wE_itD {k : D → Option (List D)} {Q : List D → Env → Prop} : wE (itD f k) ρ Q E ↔ wE f ρ (fun a ρ1 => wP (toD ρ1 (nrm a)) fun p => wP (k p.1) fun ds => Q ds p.2) E := by
  unfold itD
  rw [wE_b]
  unfold wE
  cases f ρ with
  | none => rfl
  | some w =>
    obtain ⟨r, ρ1⟩ := w
    cases r with
    | error x => rfl
    | ok a =>
      dsimp only
      cases toD ρ1 (nrm a) with
      | none => rfl
      | some w =>
        obtain ⟨x, ρ2⟩ := w
        simp only [wP_some]
        cases k x <;> rfl
@[simp] theorem wE_itN {fs : List DE} {k : List D → Option (List D)} {Q : List D → Env → Prop} : wE (itN fs k) ρ Q E ↔ wE (eA fs) ρ (fun as ρ1 => wP (pks ρ1 as) fun xs => wP (k xs) fun ds => Q ds ρ1) E := by
  unfold itN
  rw [wE_b]
  unfold wE
  cases eA fs ρ with
  | none => rfl
  | some w =>
    obtain ⟨r, ρ1⟩ := w
    cases r with
    | error x => rfl
    | ok as =>
      dsimp only
      cases pks ρ1 as with
      | none => rfl
      | some xs =>
        simp only [Option.bind_some, wP_some]
        cases k xs <;> rfl
end
/-! ### statements -/
section
variable {ρ : Env} {f : DE} {g g1 g2 : DS} {Q : Ctl → Env → Prop} {i : Nat} {x : D}
@[simp] theorem wS_skip : wS sSkip ρ Q ↔ Q .nx ρ := by unfold wS; rfl
@[simp] theorem wS_brk : wS sBrk ρ Q ↔ Q .bk ρ := by unfold wS; rfl
@[simp] theorem wS_cnt : wS sCnt ρ Q ↔ Q .ct ρ := by unfold wS; rfl
@[simp] theorem wS_retN : wS sRetN ρ Q ↔ Q (.rt (.d .non)) ρ := by unfold wS; rfl
def wNx (c : Ctl) (ρ : Env) (k : Env → Prop) (Q : Ctl → Env → Prop) : Prop := match c with
  | .nx => k ρ
  | c => Q c ρ
@[simp] theorem wNx_nx {k : Env → Prop} : wNx .nx ρ k Q ↔ k ρ := Iff.rfl
@[simp] theorem wNx_bk {k : Env → Prop} : wNx .bk ρ k Q ↔ Q .bk ρ := Iff.rfl
@[simp] theorem wNx_ct {k : Env → Prop} : wNx .ct ρ k Q ↔ Q .ct ρ := Iff.rfl
@[simp] theorem wNx_rt {r : R} {k : Env → Prop} : wNx (.rt r) ρ k Q ↔ Q (.rt r) ρ := Iff.rfl
@[simp] theorem wNx_ex {r : Exn} {k : Env → Prop} : wNx (.ex r) ρ k Q ↔ Q (.ex r) ρ := Iff.rfl
@[simp] theorem wS_q : wS (sSeq g1 g2) ρ Q ↔ wS g1 ρ fun c ρ1 => wNx c ρ1 (fun ρ1 => wS g2 ρ1 Q) Q := by
  unfold wS sSeq
  cases g1 ρ with
  | none => rfl
  | some w =>
    obtain ⟨c, ρ1⟩ := w
    cases c <;> rfl
@[simp] theorem wS_b {α : Type} {t : Dx α} {k : α → DS} : wS (bS t k) ρ Q ↔ wE t ρ (fun a ρ1 => wS (k a) ρ1 Q) fun x ρ1 => Q (.ex x) ρ1 := by
  unfold wS wE bS
  cases t ρ with
  | none => rfl
  | some w =>
    obtain ⟨r, ρ1⟩ := w
    cases r <;> rfl
@[simp] theorem wS_set : wS (sSet i f) ρ Q ↔ wE f ρ (fun a ρ1 => wS (setR i a) ρ1 Q) fun x ρ1 => Q (.ex x) ρ1 := wS_b
@[simp] theorem wS_setd : wS (setR i (.d x)) ρ Q ↔ i < ρ.length ∧ Q .nx (ρ.set i (some (.d x))) := by
  unfold wS setR
  by_cases h : i < ρ.length <;> simp [h]
@[simp] theorem wS_seto : wS (setR i (.o x)) ρ Q ↔ i < ρ.length ∧ Q .nx (ρ.set i (some (.o x))) := by
  unfold wS setR
  by_cases h : i < ρ.length <;> simp [h]
@[simp] theorem wS_sets {j : Nat} : wS (setR i (.s j)) ρ Q ↔ wP (frzS ρ j) fun p => i < p.2.length ∧ Q .nx (p.2.set i (some (.d p.1))) := by
  unfold wS setR
  dsimp only
  cases frzS ρ j with
  | none => rfl
  | some w =>
    obtain ⟨x, ρ1⟩ := w
    simp only [wP_some]
    by_cases h : i < ρ1.length <;> simp [h]
@[simp] theorem wS_ret : wS (sRet f) ρ Q ↔ wE f ρ (fun a ρ1 => wS (retR a) ρ1 Q) fun x ρ1 => Q (.ex x) ρ1 := wS_b
@[simp] theorem wS_retd : wS (retR (.d x)) ρ Q ↔ Q (.rt (.d x)) ρ := by unfold wS; rfl
@[simp] theorem wS_reto : wS (retR (.o x)) ρ Q ↔ Q (.rt (.o x)) ρ := by unfold wS; rfl
@[simp] theorem wS_rets {j : Nat} : wS (retR (.s j)) ρ Q ↔ wP (frzS ρ j) fun p => Q (.rt (.d p.1)) p.2 := by
  unfold wS retR
  dsimp only
  cases frzS ρ j with
  | none => rfl
  | some w => rfl
@[simp] theorem wS_exp : wS (sExp f) ρ Q ↔ wE f ρ (fun _ ρ1 => Q .nx ρ1) fun x ρ1 => Q (.ex x) ρ1 := by
  unfold sExp
  rw [wS_b]
  unfold wS
  rfl
@[simp] theorem wS_if {t : Dx Bool} : wS (sIf t g1 g2) ρ Q ↔ wE t ρ (fun b ρ1 => if b = true then wS g1 ρ1 Q else wS g2 ρ1 Q) fun x ρ1 => Q (.ex x) ρ1 := by
  unfold sIf
  rw [wS_b]
  have : (fun (b : Bool) ρ1 => wS (if b = true then g1 else g2) ρ1 Q) = fun b ρ1 => if b = true then wS g1 ρ1 Q else wS g2 ρ1 Q := by
    funext b ρ1
    cases b <;> rfl
  rw [this]
@[simp] theorem wS_asg {t : GT} : wS (sAsg f t) ρ Q ↔ wE f ρ (fun a ρ1 => wP (toD ρ1 (nrm a)) fun p => wP (t p.1 p.2) fun ρ2 => Q .nx ρ2) fun x ρ1 => Q (.ex x) ρ1 := by
  unfold sAsg
  rw [wS_b]
  unfold wE wS
  cases f ρ with
  | none => rfl
  | some w =>
    obtain ⟨r, ρ1⟩ := w
    cases r with
    | error x => rfl
    | ok a =>
      dsimp only
      cases toD ρ1 (nrm a) with
      | none => rfl
      | some w =>
        obtain ⟨x, ρ2⟩ := w
        simp only [wP_some]
        cases t x ρ2 <;> rfl
@[simp] theorem gNm_w {P : Env → Prop} : wP (gNm i x ρ) P ↔ i < ρ.length ∧ P (ρ.set i (some (.d x))) := by
  unfold gNm
  by_cases h : i < ρ.length <;> simp [h]
@[simp] theorem gTp_w {ts : List GT} {xs : List D} {P : Env → Prop} : wP (gTp ts (.tup xs) ρ) P ↔ xs.length = ts.length ∧ wP (gTs ts xs ρ) P := by
  show wP (if xs.length = ts.length then gTs ts xs ρ else none) P ↔ _
  by_cases h : xs.length = ts.length <;> simp [h]
@[simp] theorem gTs_nil {P : Env → Prop} : wP (gTs [] [] ρ) P ↔ P ρ := Iff.rfl
@[simp] theorem gTs_cons {t : GT} {ts : List GT} {xs : List D} {P : Env → Prop} : wP (gTs (t :: ts) (x :: xs) ρ) P ↔ wP (t x ρ) fun ρ1 => wP (gTs ts xs ρ1) P := by
  show wP ((t x ρ).bind (gTs ts xs)) P ↔ _
  cases t x ρ <;> rfl
@[simp] theorem wS_par {is : List Nat} {fs : List DE} : wS (sPar is fs) ρ Q ↔ wE (eL fs) ρ (fun as ρ1 => wP (frzL ρ1 as) fun p => wP (setL is p.1 p.2) fun ρ2 => Q .nx ρ2) fun x ρ1 => Q (.ex x) ρ1 := by
  unfold sPar
  rw [wS_b]
  unfold wE wS
  cases eL fs ρ with
  | none => rfl
  | some w =>
    obtain ⟨r, ρ1⟩ := w
    cases r with
    | error x => rfl
    | ok a =>
      dsimp only
      cases frzL ρ1 a with
      | none => rfl
      | some w =>
        obtain ⟨x, ρ2⟩ := w
        simp only [wP_some]
        cases setL is x ρ2 <;> rfl
@[simp] theorem frzL_nil {P : List R × Env → Prop} : wP (frzL ρ []) P ↔ P ([], ρ) := Iff.rfl
@[simp] theorem frzL_d {as : List R} {P : List R × Env → Prop} : wP (frzL ρ (.d x :: as)) P ↔ wP (frzL ρ as) fun p => P (.d x :: p.1, p.2) := by
  show wP ((frzL ρ as).map fun p => (R.d x :: p.1, p.2)) P ↔ _
  rw [wP_map]
@[simp] theorem frzL_o {as : List R} {P : List R × Env → Prop} : wP (frzL ρ (.o x :: as)) P ↔ wP (frzL ρ as) fun p => P (.o x :: p.1, p.2) := by
  show wP ((frzL ρ as).map fun p => (R.o x :: p.1, p.2)) P ↔ _
  rw [wP_map]
@[simp] theorem frzL_s {j : Nat} {as : List R} {P : List R × Env → Prop} : wP (frzL ρ (.s j :: as)) P ↔ wP (frzS ρ j) fun q => wP (frzL q.2 as) fun p => P (.d q.1 :: p.1, p.2) := by
  show wP (match frzS ρ j with
    | some (x, ρ1) => (frzL ρ1 as).map fun p => (R.d x :: p.1, p.2)
    | none => none) P ↔ _
  cases frzS ρ j with
  | none => rfl
  | some w =>
    obtain ⟨x, ρ1⟩ := w
    simp only [wP_some, wP_map]
@[simp] theorem setL_nil {P : Env → Prop} : wP (setL [] [] ρ) P ↔ P ρ := Iff.rfl
@[simp] theorem setL_d {is : List Nat} {as : List R} {P : Env → Prop} : wP (setL (i :: is) (.d x :: as) ρ) P ↔ i < ρ.length ∧ wP (setL is as (ρ.set i (some (.d x)))) P := by
  show wP (if i < ρ.length then setL is as (ρ.set i (some (.d x))) else none) P ↔ _
  by_cases h : i < ρ.length <;> simp [h]
@[simp] theorem setL_o {is : List Nat} {as : List R} {P : Env → Prop} : wP (setL (i :: is) (.o x :: as) ρ) P ↔ i < ρ.length ∧ wP (setL is as (ρ.set i (some (.o x)))) P := by
  show wP (if i < ρ.length then setL is as (ρ.set i (some (.o x))) else none) P ↔ _
  by_cases h : i < ρ.length <;> simp [h]
@[simp] theorem wS_stI {fv fo fi : DE} : wS (sStI fv fo fi) ρ Q ↔ wE fv ρ (fun a ρ1 => wE fo ρ1 (fun o ρ2 => wE fi ρ2 (fun j ρ3 => wP (toD ρ3 (nrm a)) fun p => wP (pk p.2 (nrm j)) fun k => wI (.d k) fun k => wOw o fun s => wGo (gt p.2 s) fun ds => wP (ixN ds.length k) fun m => Q .nx (p.2.set s (some (.o (.lst (ds.set m p.1)))))) fun x ρ1 => Q (.ex x) ρ1) fun x ρ1 => Q (.ex x) ρ1) fun x ρ1 => Q (.ex x) ρ1 := by
  unfold sStI
  rw [wS_b]
  unfold wE wS
  cases fv ρ with
  | none => rfl
  | some w =>
    obtain ⟨r, ρ1⟩ := w
    cases r with
    | error x => rfl
    | ok a =>
      dsimp only
      unfold bS
      cases fo ρ1 with
      | none => rfl
      | some w =>
        obtain ⟨r, ρ2⟩ := w
        cases r with
        | error x => rfl
        | ok o =>
          dsimp only
          cases fi ρ2 with
          | none => rfl
          | some w =>
            obtain ⟨r, ρ3⟩ := w
            cases r with
            | error x => rfl
            | ok j =>
              dsimp only
              cases toD ρ3 (nrm a) with
              | none => rfl
              | some w =>
                obtain ⟨x, ρ2⟩ := w
                simp only [wP_some]
                cases pk ρ2 (nrm j) with
                | none => rfl
                | some k =>
                  simp only [wP_some]
                  unfold stIx
                  cases o with
                  | d _ => cases k <;> rfl
                  | o _ => cases k <;> rfl
                  | s i =>
                    cases k with
                    | int k =>
                      simp only [wI_int, wOw_s]
                      cases gt ρ2 i with
                      | none => rfl
                      | some s =>
                        cases s with
                        | d _ => rfl
                        | x _ => rfl
                        | o y =>
                          cases y with
                          | lst ds =>
                            simp only [wGo_l]
                            cases ixN ds.length k <;> rfl
                          | _ => rfl
                    | _ => rfl
/-! loops -/
def wLp (c : Ctl) (ρ : Env) (k : Env → Prop) (Q : Ctl → Env → Prop) : Prop := match c with
  | .nx => k ρ
  | .ct => k ρ
  | .bk => Q .nx ρ
  | c => Q c ρ
@[simp] theorem wLp_nx {k : Env → Prop} : wLp .nx ρ k Q ↔ k ρ := Iff.rfl
@[simp] theorem wLp_ct {k : Env → Prop} : wLp .ct ρ k Q ↔ k ρ := Iff.rfl
@[simp] theorem wLp_bk {k : Env → Prop} : wLp .bk ρ k Q ↔ Q .nx ρ := Iff.rfl
@[simp] theorem wLp_rt {r : R} {k : Env → Prop} : wLp (.rt r) ρ k Q ↔ Q (.rt r) ρ := Iff.rfl
@[simp] theorem wLp_ex {r : Exn} {k : Env → Prop} : wLp (.ex r) ρ k Q ↔ Q (.ex r) ρ := Iff.rfl
@[simp] theorem wS_for {it : Dx (List D)} {t : GT} : wS (sFor it t g) ρ Q ↔ wE it ρ (fun xs ρ1 => wS (forL t g xs) ρ1 Q) fun x ρ1 => Q (.ex x) ρ1 := wS_b
theorem wS_f0 {t : GT} : wS (forL t g []) ρ Q ↔ Q .nx ρ := by unfold wS; rfl
theorem wS_f {t : GT} {xs : List D} : wS (forL t g (x :: xs)) ρ Q ↔ wP (t x ρ) fun ρ1 => wS g ρ1 fun c ρ2 => wLp c ρ2 (fun ρ2 => wS (forL t g xs) ρ2 Q) Q := by
  unfold wS
  rw [forL]
  cases t x ρ with
  | none => rfl
  | some ρ1 =>
    dsimp only
    simp only [wP_some]
    cases g ρ1 with
    | none => rfl
    | some w =>
      obtain ⟨c, ρ2⟩ := w
      cases c <;> rfl
theorem wS_w {t : Dx Bool} {n : Nat} : wS (whN t g (n + 1)) ρ Q ↔ wE t ρ (fun b ρ1 => if b = true then wS g ρ1 (fun c ρ2 => wLp c ρ2 (fun ρ2 => wS (whN t g n) ρ2 Q) Q) else Q .nx ρ1) fun x ρ1 => Q (.ex x) ρ1 := by
  unfold wS wE
  rw [whN]
  cases t ρ with
  | none => rfl
  | some w =>
    obtain ⟨r, ρ1⟩ := w
    cases r with
    | error x => rfl
    | ok b =>
      cases b with
      | false => rfl
      | true =>
        dsimp only
        simp only [if_true]
        cases g ρ1 with
        | none => rfl
        | some w =>
          obtain ⟨c, ρ2⟩ := w
          cases c <;> rfl
/-- for, by an invariant over the items that are left -/
theorem wS.forI {t : GT} (I : List D → Env → Prop) {xs : List D} (h0 : I xs ρ) (hd : ∀ ρ, I [] ρ → Q .nx ρ)
    (hs : ∀ x r ρ, I (x :: r) ρ → wP (t x ρ) fun ρ1 => wS g ρ1 fun c ρ2 => wLp c ρ2 (fun ρ2 => I r ρ2) Q) : wS (forL t g xs) ρ Q := by
  induction xs generalizing ρ with
  | nil => exact wS_f0.mpr (hd ρ h0)
  | cons x r ih =>
    rw [wS_f]
    have h := hs x r ρ h0
    rw [wP_ex] at h ⊢
    obtain ⟨ρ1, e, h⟩ := h
    refine ⟨ρ1, e, h.mono fun c ρ2 q => ?_⟩
    cases c with
    | nx => exact ih q
    | ct => exact ih q
    | _ => exact q
/-- while, by an invariant with a measure -/
theorem wS.whlI {t : Dx Bool} (I : Nat → Env → Prop) {m n : Nat} (h0 : I m ρ) (hn : m < n)
    (hs : ∀ m ρ, I m ρ → wE t ρ (fun b ρ1 => if b = true then wS g ρ1 (fun c ρ2 => wLp c ρ2 (fun ρ2 => ∃ m', m' < m ∧ I m' ρ2) Q) else Q .nx ρ1) fun x ρ1 => Q (.ex x) ρ1) : wS (whN t g n) ρ Q := by
  induction n generalizing m ρ with
  | zero => omega
  | succ n ih =>
    rw [wS_w]
    refine (hs m ρ h0).mono (fun b ρ1 q => ?_) fun _ _ e => e
    cases b with
    | false => exact q
    | true =>
      simp only [if_true] at q ⊢
      refine q.mono fun c ρ2 q => ?_
      cases c with
      | nx =>
        obtain ⟨m', h1, h2⟩ := q
        exact ih h2 (by omega)
      | ct =>
        obtain ⟨m', h1, h2⟩ := q
        exact ih h2 (by omega)
      | _ => exact q
end
/-! ### comprehensions -/
section
variable {ρ : Env} {vs : List Nat} {t : GT} {tt : Dx Bool} {e : DE} {E : Exn → Env → Prop}
@[simp] theorem wE_lc {it : Dx (List D)} {Q : R → Env → Prop} : wE (xLc it vs t tt e) ρ Q E ↔ wE it ρ (fun xs ρ1 => wE (compL vs t tt e xs []) ρ1 (fun acc ρ2 => Q (.o (.lst acc)) ρ2) E) E := by
  unfold xLc
  simp only [wE_b, wE_r]
theorem wE_l0 {acc : List D} {Q : List D → Env → Prop} : wE (compL vs t tt e [] acc) ρ Q E ↔ Q acc ρ := by unfold wE; rfl
theorem wE.compI (I : List D → List D → Env → Prop) {xs acc : List D} {Q : List D → Env → Prop} (h0 : I xs acc ρ) (hd : ∀ acc ρ, I [] acc ρ → Q acc ρ)
    (hs : ∀ x r acc ρ, I (x :: r) acc ρ → wP (t x (wipeE ρ vs)) fun ρ1 => wE tt ρ1 (fun b ρ2 => if b = true then wE e ρ2 (fun a ρ3 => wP (toD ρ3 (nrm a)) fun p => acc.length < sizeLine ∧ I r (acc ++ [p.1]) (wipeE p.2 vs)) (fun _ _ => False) else I r acc (wipeE ρ2 vs)) fun _ _ => False) : wE (compL vs t tt e xs acc) ρ Q E := by
  induction xs generalizing ρ acc with
  | nil => exact wE_l0.mpr (hd acc ρ h0)
  | cons x r ih =>
    have h := hs x r acc ρ h0
    unfold wE
    rw [compL]
    unfold wE at h
    cases z : t x (wipeE ρ vs) with
    | none => rw [z] at h; exact h.elim
    | some ρ1 =>
      rw [z] at h
      simp only [wP_some] at h
      dsimp only
      cases y : tt ρ1 with
      | none => rw [y] at h; exact h.elim
      | some w =>
        obtain ⟨rb, ρ2⟩ := w
        rw [y] at h
        cases rb with
        | error x => exact h.elim
        | ok b =>
          cases b with
          | false =>
            have h := ih h
            unfold wE at h
            exact h
          | true =>
            dsimp only at h ⊢
            simp only [if_true] at h
            cases u : e ρ2 with
            | none => rw [u] at h; exact h.elim
            | some w =>
              obtain ⟨ra, ρ3⟩ := w
              rw [u] at h
              cases ra with
              | error x => exact h.elim
              | ok a =>
                dsimp only at h ⊢
                cases v : toD ρ3 (nrm a) with
                | none => rw [v] at h; exact h.elim
                | some w =>
                  obtain ⟨y, ρ4⟩ := w
                  rw [v] at h
                  dsimp only at h ⊢
                  have h2 : acc.length < sizeLine ∧ I r (acc ++ [y]) (wipeE ρ4 vs) := h
                  rw [if_pos h2.1]
                  have h3 := ih h2.2
                  unfold wE at h3
                  exact h3
end
/-! ### a def -/
def wR (pm : List Bool) (ss : List S) (c : Ctl) (ρ : Env) (Q : R → List S → Prop) (E : Exn → List S → Prop) : Prop := match c with
  | .nx => wP (outs pm ss ρ) fun o => Q (.d .non) o
  | .rt (.d x) => wP (outs pm ss ρ) fun o => Q (.d x) o
  | .rt (.o x) => wP (outs pm ss ρ) fun o => Q (.o x) o
  | .ex x => wP (outs pm ss ρ) fun o => E x o
  | _ => False
section
variable {pm : List Bool} {ss : List S} {ρ : Env} {x : D} {Q : R → List S → Prop} {E : Exn → List S → Prop}
@[simp] theorem wR_nx : wR pm ss .nx ρ Q E ↔ wP (outs pm ss ρ) fun o => Q (.d .non) o := Iff.rfl
@[simp] theorem wR_rd : wR pm ss (.rt (.d x)) ρ Q E ↔ wP (outs pm ss ρ) fun o => Q (.d x) o := Iff.rfl
@[simp] theorem wR_ro : wR pm ss (.rt (.o x)) ρ Q E ↔ wP (outs pm ss ρ) fun o => Q (.o x) o := Iff.rfl
@[simp] theorem wR_ex {y : Exn} : wR pm ss (.ex y) ρ Q E ↔ wP (outs pm ss ρ) fun o => E y o := Iff.rfl
theorem wF_fn {N : Nat} {g : DS} : wF (fnF pm N g) ss Q E ↔ okP pm ss = true ∧ wS g (sl ss ++ List.replicate (N - pm.length) none) fun c ρ => wR pm ss c ρ Q E := by
  unfold wF fnF wS
  by_cases h : okP pm ss = true
  · simp only [h, if_true, true_and]
    cases g (sl ss ++ List.replicate (N - pm.length) none) with
    | none => rfl
    | some w =>
      obtain ⟨c, ρ⟩ := w
      cases c with
      | nx => dsimp only [wR]; cases outs pm ss ρ <;> rfl
      | bk => rfl
      | ct => rfl
      | ex x => dsimp only [wR]; cases outs pm ss ρ <;> rfl
      | rt r =>
        cases r with
        | d x => dsimp only [wR]; cases outs pm ss ρ <;> rfl
        | o x => dsimp only [wR]; cases outs pm ss ρ <;> rfl
        | s i => rfl
  · simp [h]
@[simp] theorem sl_nil : sl [] = [] := rfl
@[simp] theorem sl_cons {s : S} {ss : List S} : sl (s :: ss) = some s :: sl ss := rfl
@[simp] theorem outs_nil : outs [] ss ρ = some [] := rfl
@[simp] theorem outs_t {s o : S} {bs : List Bool} {P : List S → Prop} : wP (outs (true :: bs) (s :: ss) (some o :: ρ)) P ↔ wP (outs bs ss ρ) fun r => P (o :: r) := by
  show wP (match (if true = true then some o else some s), outs bs ss ρ with
    | some s', some r => some (s' :: r)
    | _, _ => none) P ↔ _
  cases outs bs ss ρ <;> rfl
@[simp] theorem outs_f {s : S} {o : Option S} {bs : List Bool} {P : List S → Prop} : wP (outs (false :: bs) (s :: ss) (o :: ρ)) P ↔ wP (outs bs ss ρ) fun r => P (s :: r) := by
  show wP (match (if false = true then o else some s), outs bs ss ρ with
    | some s', some r => some (s' :: r)
    | _, _ => none) P ↔ _
  cases outs bs ss ρ <;> rfl
end
@[simp] theorem okP_nil : okP [] [] = true := rfl
@[simp] theorem okP_t {s : S} {bs : List Bool} {ss : List S} : okP (true :: bs) (s :: ss) = okP bs ss := rfl
@[simp] theorem okP_f {x : D} {bs : List Bool} {ss : List S} : okP (false :: bs) (.d x :: ss) = okP bs ss := rfl
@[simp] theorem noS_d {x : D} : noS (.ok (.d x)) = true := rfl
@[simp] theorem noS_o {x : D} : noS (.ok (.o x)) = true := rfl
end Dn
end

section
set_option Elab.async false
set_option linter.all false
set_option maxRecDepth 100000
set_option maxHeartbeats 4000000
/-! Dn: operations on data, as conditions. -/
namespace Dn
open PySem PySem.Spec L2
section
variable {P : R → Prop} {i j : Int} {a b z : Str} {xs ys : List D} {x y : D}
@[simp] theorem k_ix_l : wP (kIx (.lst xs) (.int i)) P ↔ wP (atI xs i) fun x => P (.d x) := wP_map
@[simp] theorem k_ix_t : wP (kIx (.tup xs) (.int i)) P ↔ wP (atI xs i) fun x => P (.d x) := wP_map
@[simp] theorem k_ix_s {ns : List Int} : wP (kIx (.src ns) (.int i)) P ↔ wP (atI ns i) fun x => P (.d (.int x)) := wP_map
theorem wP_ite {α : Type} {c : Prop} [Decidable c] {x : α} {P : α → Prop} : wP (if c then some x else none) P ↔ c ∧ P x := by
  by_cases h : c <;> simp [h]
@[simp] theorem k_add_i : wP (kAdd (.int i) (.int j)) P ↔ P (.d (.int (i + j))) := Iff.rfl
@[simp] theorem k_add_s : wP (kAdd (.str a) (.str b)) P ↔ a.length + b.length ≤ sizeLine ∧ P (.d (.str (a ++ b))) := wP_ite
@[simp] theorem k_add_l : wP (kAdd (.lst xs) (.lst ys)) P ↔ xs.length + ys.length ≤ sizeLine ∧ P (.o (.lst (xs ++ ys))) := wP_ite
@[simp] theorem k_add_t : wP (kAdd (.tup xs) (.tup ys)) P ↔ xs.length + ys.length ≤ sizeLine ∧ P (.d (.tup (xs ++ ys))) := wP_ite
@[simp] theorem k_sub : wP (kSub (.int i) (.int j)) P ↔ P (.d (.int (i - j))) := Iff.rfl
@[simp] theorem k_mul_i : wP (kMul (.int i) (.int j)) P ↔ (smallI i || smallI j) = true ∧ P (.d (.int (i * j))) := wP_ite
@[simp] theorem k_mul_s : wP (kMul (.str z) (.int i)) P ↔ (-9223372036854775808 ≤ i ∧ i < 9223372036854775808 ∧ z.length * i.toNat ≤ sizeLine ∧ z.length ≤ sizeLine) ∧ P (.d (.str (repS z i.toNat))) := wP_ite
@[simp] theorem k_mul_t : wP (kMul (.tup xs) (.int i)) P ↔ (-9223372036854775808 ≤ i ∧ i ≤ 1000 ∧ xs.length ≤ 1000) ∧ P (.d (.tup (List.replicate i.toNat xs).flatten)) := wP_ite
@[simp] theorem k_mul_l : wP (kMul (.lst xs) (.int i)) P ↔ (-9223372036854775808 ≤ i ∧ i < 9223372036854775808 ∧ xs.length * i.toNat ≤ sizeLine) ∧ P (.o (.lst (List.replicate i.toNat xs).flatten)) := wP_ite
@[simp] theorem k_mod : wP (kMod (.int i) (.int j)) P ↔ 0 < j ∧ P (.d (.int (i % j))) := wP_ite
@[simp] theorem k_div : wP (kDiv (.int i) (.int j)) P ↔ (0 < j ∧ j < 1073741824) ∧ P (.d (.int (i / j))) := wP_ite
@[simp] theorem k_pow : wP (kPow (.int i) (.int j)) P ↔ (0 ≤ j ∧ j ≤ 1000000 ∧ i.natAbs < 18446744073709551616) ∧ P (.d (.int (i ^ j.toNat))) := wP_ite
@[simp] theorem k_neg : wP (kNeg (.int i)) P ↔ P (.d (.int (-i))) := Iff.rfl
@[simp] theorem k_cmp {p : Int → Int → Bool} : wP (kCmp p (.int i) (.int j)) P ↔ P (.d (.bl (p i j))) := Iff.rfl
@[simp] theorem k_eq : wP (kEq x y) P ↔ wP (eqS x y) fun b => P (.d (.bl b)) := wP_map
@[simp] theorem k_ne : wP (kNe x y) P ↔ wP (eqS x y) fun b => P (.d (.bl !b)) := wP_map
@[simp] theorem eqS_s : eqS (.str a) (.str b) = some (decide (a = b)) := rfl
@[simp] theorem eqS_i : eqS (.int i) (.int j) = some (decide (i = j)) := rfl
@[simp] theorem eqS_l {P : Bool → Prop} : wP (eqS (.lst xs) y) P ↔ (isPy (.lst xs) = true ∧ isPy y = true ∧ SeqAt.shaped (toPy (.lst xs)) = true ∧ SeqAt.shaped (toPy y) = true) ∧ P (PyData.eqv (toPy (.lst xs)) (toPy y)) := by
  show wP (eqD (.lst xs) y) P ↔ _
  exact wP_ite
@[simp] theorem eqS_t {P : Bool → Prop} : wP (eqS (.tup xs) y) P ↔ (isPy (.tup xs) = true ∧ isPy y = true ∧ SeqAt.shaped (toPy (.tup xs)) = true ∧ SeqAt.shaped (toPy y) = true) ∧ P (PyData.eqv (toPy (.tup xs)) (toPy y)) := by
  show wP (eqD (.tup xs) y) P ↔ _
  exact wP_ite
@[simp] theorem k_is {b : Bool} : wP (kIs b x .non) P ↔ P (.d (.bl (if b = true then isNon x else !isNon x))) := by cases x <;> exact Iff.rfl
@[simp] theorem isNon_n : isNon .non = true := rfl
@[simp] theorem isNon_t : isNon (.tup xs) = false := rfl
@[simp] theorem isNon_l : isNon (.lst xs) = false := rfl
@[simp] theorem isNon_i : isNon (.int i) = false := rfl
@[simp] theorem isNon_s : isNon (.str z) = false := rfl
@[simp] theorem k_in : wP (kIn x y) P ↔ wP (inD x y) fun b => P (.d (.bl b)) := wP_map
@[simp] theorem k_ni : wP (kNi x y) P ↔ wP (inD x y) fun b => P (.d (.bl !b)) := wP_map
theorem eqv_str {a b : Str} : PyData.eqv (.str a) (.str b) = decide (a = b) := by
  rw [Bool.eq_iff_iff]
  simp [PyData.eqv]
/-- a text among texts -/
theorem inD_strs {zs : List Str} : inD (.str a) (.tup (zs.map .str)) = some (zs.any fun z => decide (z = a)) := by
  have h : (zs.map D.str).all flatD = true := by
    induction zs with
    | nil => rfl
    | cons z r ih => exact ih
  show (if flatD (D.str a) = true ∧ (zs.map D.str).all flatD = true then some ((zs.map D.str).any fun y => PyData.eqv (toPy y) (toPy (D.str a))) else none) = _
  rw [if_pos ⟨rfl, h⟩, List.any_map]
  congr 1
@[simp] theorem in_s1 {z1 : Str} : inD (.str a) (.tup [.str z1]) = some (decide (z1 = a)) := by
  have := inD_strs (a := a) (zs := [z1])
  simpa using this
@[simp] theorem in_s2 {z1 z2 : Str} : inD (.str a) (.tup [.str z1, .str z2]) = some (decide (z1 = a) || decide (z2 = a)) := by
  have := inD_strs (a := a) (zs := [z1, z2])
  simpa using this
@[simp] theorem in_s3 {z1 z2 z3 : Str} : inD (.str a) (.tup [.str z1, .str z2, .str z3]) = some (decide (z1 = a) || (decide (z2 = a) || decide (z3 = a))) := by
  have := inD_strs (a := a) (zs := [z1, z2, z3])
  simpa using this
@[simp] theorem k_tru_b {b : Bool} : kTru (.bl b) = some b := rfl
@[simp] theorem k_tru_i : kTru (.int i) = some (i != 0) := rfl
@[simp] theorem k_tru_l : kTru (.lst xs) = some (!xs.isEmpty) := rfl
@[simp] theorem k_tru_t : kTru (.tup xs) = some (!xs.isEmpty) := rfl
@[simp] theorem k_tru_n : kTru .non = some false := rfl
@[simp] theorem k_len_l : wP (kLen [.lst xs]) P ↔ P (.d (.int (xs.length : Nat))) := Iff.rfl
@[simp] theorem k_len_t : wP (kLen [.tup xs]) P ↔ P (.d (.int (xs.length : Nat))) := Iff.rfl
@[simp] theorem k_len_r {ns : List Int} : wP (kLen [.src ns]) P ↔ P (.d (.int (ns.length : Nat))) := Iff.rfl
@[simp] theorem k_len_s : wP (kLen [.str z]) P ↔ z.length ≤ sizeLine ∧ P (.d (.int (z.length : Nat))) := wP_ite
@[simp] theorem k_abs : wP (kAbs [.int i]) P ↔ P (.d (.int (if i < 0 then -i else i))) := Iff.rfl
@[simp] theorem k_max : wP (kMax2 [.int i, .int j]) P ↔ P (.d (.int (if j > i then j else i))) := Iff.rfl
@[simp] theorem k_min : wP (kMin2 [.int i, .int j]) P ↔ P (.d (.int (if j < i then j else i))) := Iff.rfl
@[simp] theorem k_int_i : wP (kInt [.int i]) P ↔ P (.d (.int i)) := Iff.rfl
@[simp] theorem k_int_b {b : Bool} : wP (kInt [.bl b]) P ↔ P (.d (.int (if b then 1 else 0))) := Iff.rfl
@[simp] theorem k_bool_i : wP (kBool [.int i]) P ↔ P (.d (.bl (i != 0))) := Iff.rfl
@[simp] theorem k_list_l : wP (kList [.lst xs]) P ↔ P (.o (.lst xs)) := Iff.rfl
@[simp] theorem k_list_t : wP (kList [.tup xs]) P ↔ P (.o (.lst xs)) := Iff.rfl
@[simp] theorem k_tuple_l : wP (kTuple [.lst xs]) P ↔ P (.d (.tup xs)) := Iff.rfl
@[simp] theorem k_tuple_t : wP (kTuple [.tup xs]) P ↔ P (.d (.tup xs)) := Iff.rfl
@[simp] theorem k_sum : wP (kSum [.lst xs]) P ↔ wP (intsOf xs) fun ns => P (.d (.int ns.sum)) := wP_map
@[simp] theorem k_sl_l {lo hi : Option Int} : wP (kSl (.lst xs) lo hi) P ↔ P (.o (.lst (cut xs lo hi))) := Iff.rfl
@[simp] theorem k_sl_t {lo hi : Option Int} : wP (kSl (.tup xs) lo hi) P ↔ P (.d (.tup (cut xs lo hi))) := Iff.rfl
@[simp] theorem k_sl_s {lo hi : Option Int} : wP (kSl (.str z) lo hi) P ↔ z.length ≤ sizeLine ∧ P (.d (.str (cutS z lo hi))) := wP_ite
@[simp] theorem k_rev_l : wP (kRev (.lst xs)) P ↔ P (.o (.lst xs.reverse)) := Iff.rfl
@[simp] theorem sq_l : seqOf (.lst xs) = some xs := rfl
@[simp] theorem sq_t : seqOf (.tup xs) = some xs := rfl
@[simp] theorem k_rng {P : List D → Prop} : wP (kRng1 [.int j]) P ↔ (-4611686018427387904 ≤ j ∧ j < 4611686018427387904) ∧ P (rng 0 j.toNat) := wP_ite
@[simp] theorem k_rng2 {P : List D → Prop} : wP (kRng2 [.int i, .int j]) P ↔ (-4611686018427387904 ≤ i ∧ i < 4611686018427387904 ∧ -4611686018427387904 ≤ j ∧ j < 4611686018427387904) ∧ P (rng i (j - i).toNat) := wP_ite
@[simp] theorem k_en_l {P : List D → Prop} : wP (kEnumA (.lst xs)) P ↔ P (pairs (rng 0 xs.length) xs) := Iff.rfl
@[simp] theorem k_en_t {P : List D → Prop} : wP (kEnumA (.tup xs)) P ↔ P (pairs (rng 0 xs.length) xs) := Iff.rfl
section
variable {P : List D × D → Prop}
@[simp] theorem o_app : wP (oAppend xs [x]) P ↔ xs.length < sizeLine ∧ P (xs ++ [x], .non) := wP_ite
@[simp] theorem o_ext : wP (oExtend xs [.lst ys]) P ↔ xs.length + ys.length ≤ sizeLine ∧ P (xs ++ ys, .non) := wP_ite
@[simp] theorem o_pop : wP (oPop xs []) P ↔ wP (xs[xs.length - 1]?) fun x => P (xs.dropLast, x) := wP_map
theorem o_popI {k : Nat} (h : i = (k : Int)) (hk : k < xs.length) (hz : k < 9223372036854775808) : wP (oPop xs [.int i]) P ↔ P (xs.eraseIdx k, xs[k]) := by
  subst h
  have e : seqIndex? (k : Int) xs.length = some k := by
    have h0 : ¬ (k : Int) < 0 := by omega
    unfold seqIndex?
    simp [hk, h0]
  show wP (if -9223372036854775808 ≤ (k : Int) ∧ (k : Int) < 9223372036854775808 then (match seqIndex? (k : Int) xs.length with
    | some j => (xs[j]?).map fun x => (xs.eraseIdx j, x)
    | none => none) else none) P ↔ _
  rw [if_pos (by omega), e]
  show wP ((xs[k]?).map fun x => (xs.eraseIdx k, x)) P ↔ _
  rw [List.getElem?_eq_getElem hk]
  rfl
end
@[simp] theorem m_join_l : wP (kJoin (.str a) [.lst xs]) P ↔ wP (strsOf xs) fun ys => (ys.map (·.length)).sum + ys.length * a.length ≤ 16777216 ∧ P (.d (.str (Txt.join a ys))) := by
  show wP (match strsOf xs with
    | some ys => if (ys.map (·.length)).sum + ys.length * a.length ≤ 16777216 then some (.d (.str (Txt.join a ys))) else none
    | none => none) P ↔ _
  cases strsOf xs with
  | none => rfl
  | some ys => exact wP_ite
@[simp] theorem m_split : wP (kSplit (.str a) [.str b]) P ↔ ((b.length == 0) = false ∧ a.length + 2 ≤ sizeLine) ∧ P (.o (.lst ((Txt.split a b).map .str))) := wP_ite
@[simp] theorem ty_s : tyD "str" (some (.str a)) = true := rfl
end
theorem atI_nn {α : Type} {xs : List α} {k : Nat} : atI xs (k : Int) = xs[k]? := by
  unfold atI ixN
  by_cases h : k < xs.length
  · simp [h]
  · have : xs[k]? = none := List.getElem?_eq_none (by omega)
    simp [h, this]
@[simp] theorem at_0 {α : Type} {x : α} {xs : List α} : atI (x :: xs) 0 = some x := by
  have := atI_nn (xs := x :: xs) (k := 0)
  simpa using this
@[simp] theorem at_1 {α : Type} {x y : α} {xs : List α} : atI (x :: y :: xs) 1 = some y := by
  have := atI_nn (xs := x :: y :: xs) (k := 1)
  simpa using this
@[simp] theorem at_2 {α : Type} {x y z : α} {xs : List α} : atI (x :: y :: z :: xs) 2 = some z := by
  have := atI_nn (xs := x :: y :: z :: xs) (k := 2)
  simpa using this
@[simp] theorem at_3 {α : Type} {x y z u : α} {xs : List α} : atI (x :: y :: z :: u :: xs) 3 = some u := by
  have := atI_nn (xs := x :: y :: z :: u :: xs) (k := 3)
  simpa using this
theorem atI_neg1 {α : Type} {xs : List α} (h : xs ≠ []) : atI xs (-1) = some (xs.getLast h) := by
  have hl : 0 < xs.length := List.length_pos_iff.mpr h
  unfold atI ixN
  rw [if_neg (by decide), if_pos (by omega)]
  simp only [Option.bind_some]
  have : ((-1 : Int) + (xs.length : Int)).toNat = xs.length - 1 := by omega
  rw [this, List.getLast_eq_getElem, List.getElem?_eq_getElem]
@[simp] theorem k_ix_z {P : R → Prop} {z : Str} {i : Int} : wP (kIx (.str z) (.int i)) P ↔ z.length ≤ sizeLine ∧ wP (atI z.cps.toList i) fun c => P (.d (.str ⟨#[c]⟩)) := by
  show wP (if z.length ≤ sizeLine then (atI z.cps.toList i).map fun c => R.d (.str ⟨#[c]⟩) else none) P ↔ _
  by_cases h : z.length ≤ sizeLine
  · simp [h, wP_map]
  · simp [h]
@[simp] theorem wipe_0 {ρ : Env} : wipeE ρ [] = ρ := rfl
@[simp] theorem wipe_1 {ρ : Env} {v : Nat} {vs : List Nat} : wipeE ρ (v :: vs) = (wipeE ρ vs).set v none := rfl
theorem at_ex {α : Type} {xs : List α} {i : Int} (h0 : 0 ≤ i) (h1 : i < xs.length) : ∃ x ∈ xs, atI xs i = some x := by
  obtain ⟨k, rfl⟩ := Int.eq_ofNat_of_zero_le h0
  have hk : k < xs.length := by omega
  exact ⟨xs[k], List.getElem_mem hk, by rw [atI_nn, List.getElem?_eq_getElem hk]⟩
/-! ### texts: code points, length -/
/-- a text of at most n signs, of code points -/
def Nm (n : Nat) (z : Str) : Prop := PyData.strOk z = true ∧ z.length ≤ n
theorem Nm.mono {m n : Nat} {z : Str} (h : Nm m z) (hk : m ≤ n) : Nm n z := ⟨h.1, Nat.le_trans h.2 hk⟩
theorem strOk_iff {z : Str} : PyData.strOk z = true ↔ ∀ c ∈ z.cps.toList, c < 0x110000 := by
  unfold PyData.strOk
  rw [← Array.all_toList, List.all_eq_true]
  simp
theorem Nm.app {m n : Nat} {a b : Str} (h1 : Nm m a) (h2 : Nm n b) : Nm (m + n) (a ++ b) := by
  refine ⟨strOk_iff.mpr fun c hc => ?_, ?_⟩
  · have : (a ++ b).cps.toList = a.cps.toList ++ b.cps.toList := TL.tl_append a b
    rw [this, List.mem_append] at hc
    exact hc.elim (strOk_iff.mp h1.1 c) (strOk_iff.mp h2.1 c)
  · have : (a ++ b).length = a.length + b.length := by
      rw [TL.len_tl, TL.tl_append, List.length_append, ← TL.len_tl, ← TL.len_tl]
    rw [this]
    exact Nat.add_le_add h1.2 h2.2
theorem Nm.cut {n : Nat} {a : Str} (h : Nm n a) {lo hi : Option Int} : Nm n (cutS a lo hi) :=
  ⟨strOk_iff.mpr fun c hc => strOk_iff.mp h.1 c (by
    have : c ∈ (a.cps.toList.drop (HT.sIx a.length 0 lo)).take (HT.sIx a.length a.length hi - HT.sIx a.length 0 lo) := by
      unfold cutS at hc
      simpa using hc
    exact List.mem_of_mem_drop (List.mem_of_mem_take this)), Nat.le_trans (cutS_length a lo hi) h.2⟩
theorem Nm.chr {n : Nat} {a : Str} (h : Nm n a) {c : Nat} (hc : c ∈ a.cps.toList) : Nm 1 ⟨#[c]⟩ :=
  ⟨strOk_iff.mpr fun d hd => by
    have : d = c := by simpa using hd
    rw [this]
    exact strOk_iff.mp h.1 c hc, Nat.le_refl _⟩
theorem repS_succ (z : Str) (k : Nat) : ∀ acc : Array Nat, ((List.replicate k z.cps).foldl (· ++ ·) acc).toList = acc.toList ++ (List.replicate k z.cps.toList).flatten := by
  induction k with
  | zero => intro acc; simp
  | succ k ih =>
    intro acc
    rw [List.replicate_succ, List.foldl_cons, ih, List.replicate_succ, List.flatten_cons, Array.toList_append, List.append_assoc]
theorem Nm.rep {n : Nat} {a : Str} (h : Nm n a) (k : Nat) : Nm (n * k) (repS a k) := by
  refine ⟨strOk_iff.mpr fun c hc => ?_, ?_⟩
  · have e : (repS a k).cps.toList = (List.replicate k a.cps.toList).flatten := by
      unfold repS
      rw [repS_succ]
      simp
    rw [e, List.mem_flatten] at hc
    obtain ⟨l, hl, hc⟩ := hc
    rw [List.eq_of_mem_replicate hl] at hc
    exact strOk_iff.mp h.1 c hc
  · rw [repS_length]
    exact Nat.mul_le_mul_right _ h.2
theorem joinL_nil : ∀ ps : List (List Nat), TL.joinL [] ps = ps.flatten
  | [] => rfl
  | [p] => by simp [TL.joinL]
  | p :: q :: r => by
    show p ++ ([] ++ TL.joinL [] (q :: r)) = _
    rw [joinL_nil (q :: r), List.flatten_cons]
    simp
theorem tl_join0 {ys : List Str} : TL.tl (Txt.join "" ys) = (ys.map TL.tl).flatten := by
  rw [TL.join_eq, TL.tl_join]
  exact joinL_nil _
theorem Nm.join {n : Nat} {ys : List Str} (h : ∀ y ∈ ys, Nm n y) : Nm (n * ys.length) (Txt.join "" ys) := by
  refine ⟨strOk_iff.mpr fun c hc => ?_, ?_⟩
  · have hc : c ∈ TL.tl (Txt.join "" ys) := hc
    rw [tl_join0, List.mem_flatten] at hc
    obtain ⟨l, hl, hc⟩ := hc
    obtain ⟨y, hy, rfl⟩ := List.mem_map.mp hl
    exact strOk_iff.mp (h y hy).1 c hc
  · rw [TL.len_tl, tl_join0]
    induction ys with
    | nil => simp
    | cons y r ih =>
      rw [List.map_cons, List.flatten_cons, List.length_append, List.length_cons]
      have h1 := (h y List.mem_cons_self).2
      rw [TL.len_tl] at h1
      have h2 := ih fun y hy => h y (List.mem_cons_of_mem _ hy)
      have : n * (r.length + 1) = n * r.length + n := Nat.mul_succ _ _
      omega
/-- data that are such texts -/
def NmD (n : Nat) (x : D) : Prop := ∃ z, x = .str z ∧ Nm n z
theorem strsOf_map : ∀ ys : List Str, strsOf (ys.map D.str) = some ys
  | [] => rfl
  | y :: ys => by
    show (strsOf (ys.map D.str)).map (y :: ·) = _
    rw [strsOf_map ys]
    rfl
theorem NmD.list {n : Nat} : ∀ {ds : List D}, (∀ d ∈ ds, NmD n d) → ∃ ys : List Str, ds = ys.map D.str ∧ ∀ y ∈ ys, Nm n y
  | [], _ => ⟨[], rfl, fun _ h => by simp at h⟩
  | d :: ds, h => by
    obtain ⟨ys, rfl, hy⟩ := NmD.list fun d hd => h d (List.mem_cons_of_mem _ hd)
    obtain ⟨z, rfl, hz⟩ := h d List.mem_cons_self
    refine ⟨z :: ys, rfl, fun y hm => ?_⟩
    rcases List.mem_cons.mp hm with rfl | hm
    · exact hz
    · exact hy y hm
theorem len_sum {n : Nat} : ∀ {ys : List Str}, (∀ y ∈ ys, Nm n y) → (ys.map (·.length)).sum ≤ n * ys.length
  | [], _ => by simp
  | y :: ys, h => by
    have h1 := (h y List.mem_cons_self).2
    have h2 := len_sum fun y hy => h y (List.mem_cons_of_mem _ hy)
    rw [List.map_cons, List.sum_cons, List.length_cons, Nat.mul_succ]
    omega
@[simp] theorem ix_3_0 : ixN 3 0 = some 0 := rfl
@[simp] theorem ix_3_1 : ixN 3 1 = some 1 := rfl
@[simp] theorem ix_3_2 : ixN 3 2 = some 2 := rfl
end Dn
end

section
set_option Elab.async false
set_option linter.all false
set_option maxRecDepth 100000
set_option maxHeartbeats 4000000
/-! Dn: slices, ranges, as lists. -/
namespace Dn
open PySem PySem.Spec L2
theorem sIx_nn {n d : Nat} {i : Int} (h : 0 ≤ i) : HT.sIx n d (some i) = min i.toNat n := by
  unfold HT.sIx
  simp
  omega
@[simp] theorem sIx_no {n d : Nat} : HT.sIx n d none = d := rfl
theorem cut_mem {α : Type} {xs : List α} {lo hi : Option Int} {x : α} (h : x ∈ cut xs lo hi) : x ∈ xs := by
  unfold cut at h
  exact List.mem_of_mem_drop (List.mem_of_mem_take h)
theorem cut_len {α : Type} (xs : List α) (lo hi : Option Int) : (cut xs lo hi).length ≤ xs.length := by
  unfold cut
  rw [List.length_take, List.length_drop]
  omega
theorem cut_mid {α : Type} {xs : List α} {i j : Nat} : cut xs (some (i : Int)) (some (j : Int)) = (xs.drop (min i xs.length)).take (min j xs.length - min i xs.length) := by
  unfold cut
  rw [sIx_nn (by omega), sIx_nn (by omega)]
  rfl
theorem cut_to {α : Type} {xs : List α} {j : Nat} : cut xs none (some (j : Int)) = xs.take j := by
  unfold cut
  rw [sIx_no, sIx_nn (by omega), List.drop_zero, Nat.sub_zero, Int.toNat_natCast]
  by_cases h : j ≤ xs.length
  · rw [Nat.min_eq_left h]
  · rw [Nat.min_eq_right (by omega), List.take_of_length_le (Nat.le_refl _), List.take_of_length_le (by omega)]
theorem cut_from {α : Type} {xs : List α} {i : Nat} : cut xs (some (i : Int)) none = xs.drop i := by
  unfold cut
  rw [sIx_no, sIx_nn (by omega), Int.toNat_natCast]
  by_cases h : i ≤ xs.length
  · rw [Nat.min_eq_left h, List.take_of_length_le (by rw [List.length_drop]; omega)]
  · rw [Nat.min_eq_right (by omega), Nat.sub_self, List.take_zero, List.drop_of_length_le (by omega)]
theorem cut_init {α : Type} {xs : List α} : cut xs none (some (-1)) = xs.dropLast := by
  unfold cut
  have : HT.sIx xs.length xs.length (some (-1)) = xs.length - 1 := by
    unfold HT.sIx
    simp
    omega
  rw [this, sIx_no, List.drop_zero, Nat.sub_zero, List.dropLast_eq_take]
@[simp] theorem at_m1 {α : Type} {x : α} : atI [x] (-1) = some x := rfl
@[simp] theorem at_m2 {α : Type} {x y : α} : atI [x, y] (-1) = some y := rfl
@[simp] theorem at_m3 {α : Type} {x y z : α} : atI [x, y, z] (-1) = some z := rfl
@[simp] theorem at_m4 {α : Type} {x y z u : α} : atI [x, y, z, u] (-1) = some u := rfl
@[simp] theorem at_4 {α : Type} {a b c d e : α} {xs : List α} : atI (a :: b :: c :: d :: e :: xs) 4 = some e := by
  have := atI_nn (xs := a :: b :: c :: d :: e :: xs) (k := 4)
  simpa using this
@[simp] theorem at_5 {α : Type} {a b c d e f : α} {xs : List α} : atI (a :: b :: c :: d :: e :: f :: xs) 5 = some f := by
  have := atI_nn (xs := a :: b :: c :: d :: e :: f :: xs) (k := 5)
  simpa using this
@[simp] theorem rng_len {lo : Int} {n : Nat} : (rng lo n).length = n := by simp [rng]
theorem rng_mem {lo : Int} {n : Nat} {x : D} (h : x ∈ rng lo n) : ∃ k : Nat, k < n ∧ x = .int (lo + k) := by
  unfold rng at h
  obtain ⟨k, hk, rfl⟩ := List.mem_map.mp h
  exact ⟨k, List.mem_range.mp hk, rfl⟩
end Dn
end

section
set_option Elab.async false
set_option linter.all false
set_option maxRecDepth 100000
set_option maxHeartbeats 4000000
/-! Dn: own exceptions: their making, raise. -/
namespace Dn
open PySem PySem.Spec PyProof.Rows L2
/-! ### Base.__init__(self, 'm'), Base an own class that has ValueError's -/
/-- what the written part says of the base b, at C0 -/
structure BaseI (K : PySem.W.Frag) (mg : MG) (b : Str) (C0 : Addr) : Prop where
  g : mg b = some (.ref C0)
  rd : PySem.W.readsIn K C0 (.type "type") = true
  ga : PySem.W.specialIn K (.ref C0) "__getattribute__" = some (some (.builtin "type.__getattribute__"))
  fi : PySem.W.findCls K (.ref C0) (.type "type") "__init__" = some (.val (.builtin "ValueError.__init__"))
def baseB (K : PySem.W.Frag) (b : Str) : Bool := PySem.W.readsIn K (He.ga K b) (.type "type") && (decide (PySem.W.specialIn K (.ref (He.ga K b)) "__getattribute__" = some (some (.builtin "type.__getattribute__"))) && (match PySem.W.findCls K (.ref (He.ga K b)) (.type "type") "__init__" with
  | some (.val (.builtin s)) => decide (s = "ValueError.__init__")
  | _ => false))
theorem baseB_ok {K : PySem.W.Frag} {mg : MG} {b : Str} (g : mg b = some (.ref (He.ga K b))) (h : baseB K b = true) : BaseI K mg b (He.ga K b) := by
  obtain ⟨h1, h⟩ := Bool.and_eq_true_iff.mp h
  obtain ⟨h2, h3⟩ := Bool.and_eq_true_iff.mp h
  refine ⟨g, h1, of_decide_eq_true h2, ?_⟩
  split at h3
  · rename_i s e
    rw [e, of_decide_eq_true h3]
  · cases h3
section
variable {X : Cx} {e : Expr} {es : List Expr} {ta : TA} {b : Str} {C0 : Addr} {p1 p2 pos : Pos}
theorem pe_feinit {pl : Sem Bool} (B : BaseI X.K X.mg b C0) (hg : Gl X b) (ha : PA X (e :: es) ta) (hdb : (b == ("__debug__" : Str)) = false := by decide)
    (hc : eval (.Call (.Attribute (.Name b p1) "__init__" p2) (e :: es) [] pos) X.env = (do
      let ov ← eval (.Name b p1) X.env
      standAt p2.atName
      let (f, first) ← holding [ov] (getMethod ov "__init__" pl)
      callWith pos f first (backTo pos (starEach (e :: es) X.env)) (backToKw pos (keywordEach [] X.env))) := by rfl)
    (he : starEach (e :: es) X.env = (false, eval e X.env) :: starEach es X.env := by rfl) (hpl : (backTo pos (starEach es X.env)).any (·.1) = false := by rfl) :
    PE X (.Call (.Attribute (.Name b p1) "__init__" p2) (e :: es) [] pos) (tVeI X.K ta) := by
  refine ⟨fun pins s σ H Q I h => ?_⟩
  refine PySem.W.methodCall_KW (ld_glob I hg B.g ?_ hdb) hc
  refine PySem.W.method_cls I.kIn B.ga (PySem.W.cls_value I.kIn B.rd B.fi (by decide +kernel) ?_)
  show wpAny _ _ (callWith pos (Value.builtin "ValueError.__init__") [] (backTo pos (starEach (e :: es) X.env)) []) _ _ _
  refine PyProof.Rows.callWith_method1 (thn (ha.run pos pins _ σ H _ (I.tok _) h) fun us s1 ⟨vs, H1, I1, r1, a, C, ws, ev, hl, T, ea, q⟩ => ?_) he hpl
  subst ev
  cases r1 with
  | @cons _ u0 _ ur ra rw' =>
    obtain rfl : u0 = Value.ref a := ra
    have hlen : ur.length ≤ sizeLine := by
      rw [← Paired.length rw', sizeLine_eq]
      omega
    exact oinit_ok T I1 ea hlen fun s' J => ⟨.non, H1, J, rfl, q⟩
end
/-! ### C(e, ..): C's own __init__ calls the base's and stores its fields -/
def spI0 (K : PySem.W.Frag) (C : Addr) : Sp := fun vs H Q _ => ∃ a, vs = [.ref a] ∧ OexC K C ∧ H a = some (exo a C none) ∧ Q .non H
def spI1 (K : PySem.W.Frag) (C : Addr) (f : Str) : Sp := fun vs H Q _ => ∃ a y, vs = [.ref a, y] ∧ OexC K C ∧ PySem.W.findIn K (.ref C) f = some none ∧ H a = some (exo a C none) ∧
  ∀ dx, H dx = none → dx ≠ a → Q .non (upd (upd H dx (exd dx [(f, y)])) a (exo a C (some dx)))
def spI2 (K : PySem.W.Frag) (C : Addr) (f g : Str) : Sp := fun vs H Q _ => ∃ a y z, vs = [.ref a, y, z] ∧ OexC K C ∧ PySem.W.findIn K (.ref C) f = some none ∧ PySem.W.findIn K (.ref C) g = some none ∧ H a = some (exo a C none) ∧
  ∀ dx, H dx = none → dx ≠ a → Q .non (upd (upd H dx (exd dx [(g, z), (f, y)])) a (exo a C (some dx)))
section
variable {K : PySem.W.Frag} {C : Addr} {f g m : Str} {N : List Str} {vs : List V} {H : Hp} {Q : VK} {E : XK}
theorem rdI0 (h : spI0 K C vs H Q E) : tDrop (tVeI K (tCons (tVar 0) (tCons (tC (.str m)) tNil))) { nx := fun _ H' => Q .non H', rt := Q } (L2.start N vs) H := by
  obtain ⟨a, rfl, o, e, q⟩ := h
  exact ⟨_, rfl, a, C, [.str m], rfl, by simp, o, e, q⟩
theorem rdI1 (h : spI1 K C f vs H Q E) : tSeq (tDrop (tVeI K (tCons (tVar 0) (tCons (tC (.str m)) tNil)))) (tOst K f (tVar 0) (tVar 1)) { nx := fun _ H' => Q .non H', rt := Q } (L2.start N vs) H := by
  obtain ⟨a, y, rfl, o, ff, e, q⟩ := h
  exact ⟨_, rfl, a, C, [.str m], rfl, by simp, o, e, _, rfl, _, rfl, a, C, rfl, o, ff, .inl ⟨e, fun dx h1 h2 => q dx h1 h2⟩⟩
theorem rdI2 (h : spI2 K C f g vs H Q E) : tSeq (tDrop (tVeI K (tCons (tVar 0) (tCons (tC (.str m)) tNil)))) (tSeq (tOst K f (tVar 0) (tVar 1)) (tOst K g (tVar 0) (tVar 2))) { nx := fun _ H' => Q .non H', rt := Q } (L2.start N vs) H := by
  obtain ⟨a, y, z, rfl, o, ff, fg, e, q⟩ := h
  refine ⟨_, rfl, a, C, [.str m], rfl, by simp, o, e, _, rfl, _, rfl, a, C, rfl, o, ff, .inl ⟨e, fun dx h1 h2 => ?_⟩⟩
  refine ⟨_, rfl, _, rfl, a, C, rfl, o, fg, .inr ⟨dx, [(f, y)], upd_same, ?_, by simp, ?_⟩⟩
  · rw [upd_ne h2, upd_same]
  · have q' := q dx h1 h2
    have eH : upd (upd H dx (exd dx [(g, z), (f, y)])) a (exo a C (some dx)) = upd (upd (upd H dx (exd dx [(f, y)])) a (exo a C (some dx))) dx (exd dx [(g, z), (f, y)]) := by
      funext b
      by_cases hb : b = dx
      · subst hb
        rw [upd_ne h2, upd_same, upd_same]
      · rw [upd_ne hb]
        by_cases ha : b = a
        · subst ha
          rw [upd_same, upd_same]
        · rw [upd_ne ha, upd_ne ha, upd_ne hb, upd_ne hb]
    rw [eH] at q'
    exact q'
theorem lenI0 : ∀ vs H Q E, spI0 K C vs H Q E → vs.length = 1 := by
  rintro vs H Q E ⟨a, rfl, _⟩
  rfl
theorem lenI1 : ∀ vs H Q E, spI1 K C f vs H Q E → vs.length = 2 := by
  rintro vs H Q E ⟨a, y, rfl, _⟩
  rfl
theorem lenI2 : ∀ vs H Q E, spI2 K C f g vs H Q E → vs.length = 3 := by
  rintro vs H Q E ⟨a, y, z, rfl, _⟩
  rfl
end
/-- what the written part says of the class x with the fields fs (at most two), over a base with ValueError's __init__ -/
structure ExC (P : Program) (w : World) (K : PySem.W.Frag) (mg : MG) (base : Heap) (k : Nat) (x : Str) (fs : List Str) : Prop where
  ex : ∃ C fI fd ps sp, mg x = some (.ref C) ∧ OexC K C ∧ PySem.W.findIn K (.ref C) "__init__" = some (some (.ref fI)) ∧ PySem.W.typeIn K (.ref fI) = some (.type "function") ∧ (∀ f ∈ fs, PySem.W.findIn K (.ref C) f = some none) ∧
    Binds K fd ps [] ∧ FnOk P w K mg base CX0 k fI fd ps sp ∧ (match fs with
      | [] => sp = spI0 K C
      | [f] => sp = spI1 K C f
      | [f, g] => sp = spI2 K C f g
      | _ => False)
theorem ExC.mono {P : Program} {w : World} {K : PySem.W.Frag} {mg : MG} {base : Heap} {j k : Nat} {x : Str} {fs : List Str} (h : ExC P w K mg base j x fs) (hk : j ≤ k) : ExC P w K mg base k x fs := by
  obtain ⟨C, fI, fd, ps, sp, a, b, c, d, e, g, i, l⟩ := h.ex
  exact ⟨C, fI, fd, ps, sp, a, b, c, d, e, g, i.mono hk, l⟩
/-! ### an exception without fields -/
theorem mk_endN {X : Cx} {pins : List (Addr × Obj)} {σ : L2.St} {H1 H2 : Hp} {Q : XK} {hp hp2 h2 : Heap} {g1 g2 : Array GenState} {d1 d2 : Drawn} {t1 t2 : Nat} {os1 os2 : OsState} {a C : Addr} (T : Raises X (.ref C)) (I1 : Inv X pins σ H1 ⟨hp, g1, d1, t1, os1⟩)
    (ha : hp.objs.size ≤ a) (k : ∀ b o, hp.get? b = some o → hp2.get? b = some o) (un : Un (frs X.stack) [] (upd H1 a (exo a C none)) H2 hp2 h2) (hok : HOk X.prog X.w H2 h2) (ho : os2 = os1) (hb : AllBare g2)
    (ea : H2 a = some (exo a C none)) (q : Q (.ref C) none (del H2 a)) : MkP X pins σ Q (.ref a) ⟨h2, g2, d2, t2, os2⟩ := by
  obtain ⟨t0, hoe⟩ := exo_at hok ea
  have hn : H1 a = none := I1.hok.fresh ha
  obtain ⟨G, g1', g2'⟩ := restrict h2 fun b => decide (b ≠ a)
  have gk : ∀ b, b ≠ a → G.get? b = h2.get? b := fun b hb => g1' b (decide_eq_true hb)
  have ge : G.get? a = none := g2' a (by simp)
  have nha : ∀ {b : Addr} {o : Obj}, hp.get? b = some o → b ≠ a := fun {b o} z => Nat.ne_of_lt (Nat.lt_of_lt_of_le (Heap.lt_size z) ha)
  have up : ∀ {b : Addr}, b ≠ a → H1 b = none → upd H1 a (exo a C none) b = none := fun {b} hb n => by rw [upd_ne hb]; exact n
  have U : Un (frs X.stack) [] H1 (del H2 a) hp G := {
    keep := fun b o z n hf hx => by
      rw [gk b (nha z)]
      exact un.keep b o (k b o z) (up (nha z) n) hf hx
    slot := fun b o z n hf hx => by
      rw [gk b (nha z)]
      exact un.slot b o (k b o z) (up (nha z) n) hf hx
    free := fun b o z n hx => by
      rw [del_ne (nha z)]
      exact un.free b o (k b o z) (up (nha z) n) hx
    there := fun b o z hx => by
      rw [gk b (nha z)]
      exact un.there b o (k b o z) hx
    tups := fun b xs z => by
      rw [del_ne (ne_of_none z hn)]
      exact un.tups b xs (by rw [upd_ne (ne_of_none z hn)]; exact z)
    frzs := fun b o v z => by
      rw [del_ne (ne_of_none z hn)]
      exact un.frzs b o v (by rw [upd_ne (ne_of_none z hn)]; exact z)
    tbls := fun b ps z => by
      rw [del_ne (ne_of_none z hn)]
      exact un.tbls b ps (by rw [upd_ne (ne_of_none z hn)]; exact z) }
  have hok3 : HOk X.prog X.w (del H2 a) G := fun b o z => by
    have hba : b ≠ a := fun e => by
      rw [e, del_same] at z
      cases z
    rw [del_ne hba] at z
    have noa : ∀ {c : Addr}, H2 c = some (.own b) → c ≠ a := fun {c} hc => at_ne ea hc exo_own
    exact (hok b o z).stay (fun c v hc y => by
        have hca : c ≠ a := by
          rcases hc with hc | hc
          · rw [hc]
            exact hba
          · exact noa hc
        rw [gk c hca]
        exact y)
      (fun c hc => by rw [del_ne (noa hc)]; exact hc) (fun c xs hc => by rw [del_ne (at_ne ea hc exo_tup)]; exact hc)
  have J : Inv X pins σ (del H2 a) ⟨G, g2, d2, t2, os2⟩ := I1.call' (ch := []) ho U hok3 hb (fun b z => absurd z (by simp))
  refine ⟨a, _, _, ⟨G, g2, d2, t2, os2⟩, _, .ref C, none, rfl, J, fun b o z => ?_, ge, hoe, ⟨rfl, rfl⟩, rfl, rfl, del_same, rfl, hb, T, q⟩
  by_cases hba : b = a
  · have z' : G.get? b = some o := z
    rw [hba, ge] at z'
    cases z'
  · exact (gk b hba).symm.trans z
def tMkO0 (C : Addr) (sp : Sp) : L2.St → Hp → XK → Prop := fun σ H Q => ∀ a, H a = none → sp [.ref a] (upd H a (exo a C none)) (fun v H2 => v = .non ∧ H2 a = some (exo a C none) ∧ Q (.ref C) none (del H2 a)) (fun _ _ _ => False)
theorem pmk_oex0 {X : Cx} {CX : CXT} {x : Str} {C fI : Addr} {k : Nat} {fd : FuncData} {ps : List Str} {sp : Sp} {p pos : Pos} (T : OexC X.K C) (iC : PySem.W.findIn X.K (.ref C) "__init__" = some (some (.ref fI))) (tI : PySem.W.typeIn X.K (.ref fI) = some (.type "function"))
    (F1 : FnOk X.prog X.w X.K X.mg X.base CX k fI fd ps sp) (hr : Room (k + 1) X.A) (hb : Binds X.K fd ps []) (hx : Passes CX X (fun _ _ _ => False)) (hg : Gl X x) (hm : X.mg x = some (.ref C)) (hdb : (x == ("__debug__" : Str)) = false := by decide) :
    PMk X (.Call (.Name x p) [] [] pos) (tMkO0 C sp) := by
  intro pins s σ H Q I h
  obtain ⟨nm, q, N, bs, bm, sn, sub, ab, col, dd, k0, k1, k2, k3, k5, hC, hbm⟩ := T.cls
  refine wpAny_Call_Name_kw (ld_glob I hg hm ?_ hdb)
  refine PySem.W.callWith_K0 I.kIn T.kC ?_
  obtain ⟨hp, g, dr, tk, os⟩ := s
  have hsz : hp.objs.size ≤ hp.objs.size + 1 := Nat.le_succ _
  have hn : H (hp.objs.size + 1) = none := I.hok.fresh hsz
  have hq := h (hp.objs.size + 1) hn
  have kk : ∀ b o, hp.get? b = some o → ((hp.push (PySem.W.kdv_tup [])).push (PySem.HandSPX.excO C hp.objs.size)).get? b = some o := fun b o e => Heap.get?_push_of_some _ (Heap.get?_push_of_some _ e)
  have hget : ((hp.push (PySem.W.kdv_tup [])).push (PySem.HandSPX.excO C hp.objs.size)).get? (hp.objs.size + 1) = some (PySem.HandSPX.excO C hp.objs.size) := by heap_get
  have I2 : Inv X pins σ (upd H (hp.objs.size + 1) (exo (hp.objs.size + 1) C none)) ⟨(hp.push (PySem.W.kdv_tup [])).push (PySem.HandSPX.excO C hp.objs.size), g, dr, tk, os⟩ :=
    I.laid (t' := tk) (a := hp.objs.size + 1) (o := exo (hp.objs.size + 1) C none) (h' := (hp.push (PySem.W.kdv_tup [])).push (PySem.HandSPX.excO C hp.objs.size)) kk hsz (exo_ok hget)
  have r2 : Vals [V.ref (hp.objs.size + 1)] [Value.ref (hp.objs.size + 1)] := .cons rfl .nil
  have hl : ([Value.ref (hp.objs.size + 1)] ++ []).length = ps.length := by
    have e := F1.len _ _ _ _ hq
    exact e
  refine wpAny_call (PySem.HandSPX.call_own PySem.F.excBase_ValueError (fun Y => PySem.HandSPX.refsVE_contains Y bm hbm) (I.kIn _ _ hC) (PySem.W.looks_findIn I.kIn iC) (fun self => PySem.W.bind_fn I.kIn self tI) (Nat.zero_le _)
    (codeAny_mono (F1.run _ X.stack _ _ ⟨[Value.ref (hp.objs.size + 1)], []⟩ [Value.ref (hp.objs.size + 1)] _ _ (fun _ _ _ => False) (hr.make C [] []) (I2.env0.make C [] []) (hb _ [Value.ref (hp.objs.size + 1)] I2.kIn hl) r2 hq) fun r s' hq' => ?_))
  cases r with
  | error er => exact hx pins σ _ _ er s' I2 hq'
  | ok fl =>
    cases fl with
    | ret u =>
      obtain ⟨v, H2, os2, bare2, un2, hok2, rv, ev, ea, q2⟩ := hq'
      subst ev
      obtain ⟨h2, g2, d2, t2, os'⟩ := s'
      exact ⟨rv, mk_endN (raises_own T.exC T.tyC) I hsz kk un2 hok2 os2 bare2 ea q2⟩
    | next => exact False.elim hq'
    | brk => exact False.elim hq'
    | cont => exact False.elim hq'
/-! ### raise -/
section
variable {K : Fg} {mg : MG} {W : WX} {pr : Nat → Bool} {σ : L2.St} {ρ ρ' : Env} {F H : Hp}
/-- an exception's fields, as its __init__ leaves them -/
def exFs (ns : List Str) (xs : List D) : List (Str × D) := (ns.zip xs).reverse
def sRaise (x : Str) (ns : List Str) (fs : List DE) : DS := fun ρ => match eA fs ρ with
  | some (.ok as, ρ1) => (match toDs ρ1 as with
    | some (xs, ρ2) => some (.ex ⟨x, exFs ns xs⟩, ρ2)
    | none => none)
  | some (.error e, ρ1) => some (.ex e, ρ1)
  | none => none
theorem upd_del {H : Hp} {a : Addr} {o : HO} (h : H a = none) : del (upd H a o) a = H := by
  funext b
  by_cases e : b = a
  · rw [e, del_same, h]
  · rw [del_ne e, upd_ne e]
theorem upd_del2 {H : Hp} {a dx : Addr} {o o1 o2 p : HO} (hn : H a = none) (hd : dx ≠ a) : upd (del (upd (upd (upd H a o) dx o1) a o2) a) dx p = upd H dx p := by
  funext b
  by_cases hb : b = dx
  · subst hb
    rw [upd_same, upd_same]
  · rw [upd_ne hb, upd_ne hb]
    by_cases ha : b = a
    · subst ha
      rw [del_same, hn]
    · rw [del_ne ha, upd_ne ha, upd_ne hb, upd_ne ha]
theorem LS.raise {x : Str} {ns : List Str} {fs : List DE} {D0 : Ends} (h : LS K mg W pr (sRaise x ns fs) D0 σ H) :
    LA K mg W fs σ H fun vs H1 => ∃ xs ρ F, RS K σ ρ F H1 ∧ Reps K F xs vs ∧ vs.length = fs.length ∧ ∀ cls d F' H', RS K σ ρ F' H' → Gr σ ρ F H1 σ ρ F' H' → XR K mg F' ⟨x, exFs ns xs⟩ cls d → W cls d σ H' := by
  obtain ⟨ρ, F, c, ρ', rs, e, q⟩ := h
  unfold sRaise at e
  cases z : eA fs ρ with
  | none => rw [z] at e; cases e
  | some w =>
    obtain ⟨r, ρ1⟩ := w
    rw [z] at e
    cases r with
    | error x' =>
      cases e
      exact ⟨ρ, F, .error x', _, rs, z, fun cls d F' H' rs' g' xr => q σ F' H' rs' g' (fun _ _ => rfl) cls d xr⟩
    | ok as =>
      refine ⟨ρ, F, .ok as, ρ1, rs, z, fun vs F1 H1 rs1 g1 ro => ?_⟩
      dsimp only at e
      cases zd : toDs ρ1 as with
      | none => rw [zd] at e; cases e
      | some w =>
        obtain ⟨xs, ρ2⟩ := w
        rw [zd] at e
        cases e
        obtain ⟨F2, rs2, g2, rx⟩ := toDs_ok rs1 ro zd
        exact ⟨xs, _, F2, rs2, rx, by rw [← ro.length]; exact eA_len z, fun cls d F' H' rs' g' xr => q σ F' H' rs' (g1.trans (g2.trans g')) (fun _ _ => rfl) cls d xr⟩
end
theorem LA.imp {K : Fg} {mg : MG} {W : WX} {fs : List DE} {σ : L2.St} {H : Hp} {Q Q' : List V → Hp → Prop} (h : LA K mg W fs σ H Q) (i : ∀ vs H1, Q vs H1 → Q' vs H1) : LA K mg W fs σ H Q' := by
  obtain ⟨ρ, F, r, ρ', rs, e, q⟩ := h
  refine ⟨ρ, F, r, ρ', rs, e, ?_⟩
  cases r with
  | error x => exact q
  | ok as => exact fun vs F' H' a b c => i vs H' (q vs F' H' a b c)
section
variable {X : Cx} {W : WX} {pr : Nat → Bool} {J : Lk} {x f g : Str} {k : Nat} {e e2 : Expr} {fe fe2 : DE} {p pos pos2 : Pos}
theorem ps_raise0 (T : ExC X.prog X.w X.K X.mg X.base k x []) (hc : X.calm = true) (tk : Takes X W) (hr : Room (k + 1) X.A) (hg : Gl X x) (hdb : (x == ("__debug__" : Str)) = false := by decide) :
    PS X (.Raise (some (.Call (.Name x p) [] [] pos)) none pos2) (LS (kj J X) X.mg W pr (sRaise x [] [])) := by
  obtain ⟨C, fI, fd, ps, sp, hm, o, iC, tI, hf, hb, Fn, es⟩ := T.ex
  have es : sp = spI0 X.K C := es
  subst es
  refine PS.imp (ps_raise hc tk (pmk_oex0 o iC tI Fn hr hb pass0 hg hm hdb)) fun D σ H h => ?_
  obtain ⟨ρ, F, c, ρ', rs, e, q⟩ := h
  cases e
  intro a ha
  refine ⟨a, rfl, o, upd_same, rfl, upd_same, ?_⟩
  rw [upd_del ha]
  exact q σ F H rs Gr.refl (fun _ _ => rfl) _ _ ⟨C, hm, rfl, .inl ⟨rfl, rfl⟩⟩
theorem ps_raise1 (T : ExC X.prog X.w X.K X.mg X.base k x [f]) (hc : X.calm = true) (tk : Takes X W) (hr : Room (k + 1) X.A) (hg : Gl X x)
    (ha : PA X [e] (LA (kj J X) X.mg W [fe])) (hdb : (x == ("__debug__" : Str)) = false := by decide) (he : starEach (e :: []) X.env = (false, eval e X.env) :: starEach [] X.env := by rfl) (hpl : (backTo pos (starEach [] X.env)).any (·.1) = false := by rfl) :
    PS X (.Raise (some (.Call (.Name x p) [e] [] pos)) none pos2) (LS (kj J X) X.mg W pr (sRaise x [f] [fe])) := by
  obtain ⟨C, fI, fd, ps, sp, hm, o, iC, tI, hf, hb, Fn, es⟩ := T.ex
  have es : sp = spI1 X.K C f := es
  subst es
  refine PS.imp (ps_raise hc tk (pmk_oex o iC tI Fn hr hb .nil pass0 hg hm ha hdb he hpl)) fun D σ H h => ?_
  refine LA.imp (LS.raise h) fun vs H1 ⟨xs, ρ, F, rs, rx, hl, q⟩ => ?_
  match vs, hl, xs, rx with
  | [v], _, [y], .cons ry .nil =>
    refine ⟨by simp, fun a hn => ⟨a, v, rfl, o, hf f List.mem_cons_self, upd_same, fun dx hdx hne => ⟨rfl, dx, [(f, v)], upd_same, ?_, ?_, ?_⟩⟩⟩
    · rw [upd_ne hne, upd_same]
    · rw [upd_ne hne] at hdx
      exact hdx
    · have hd1 : H1 dx = none := by
        rw [upd_ne hne] at hdx
        exact hdx
      rw [upd_del2 hn hne]
      obtain ⟨r3, g3, s3⟩ := newF (o := .xd [(f, v)]) rs hd1
      exact q _ _ _ _ r3 g3 ⟨C, hm, rfl, .inr ⟨dx, [(f, v)], rfl, upd_same, rfl, .cons (ry.sub s3) .nil⟩⟩
theorem ps_raise2 (T : ExC X.prog X.w X.K X.mg X.base k x [f, g]) (hc : X.calm = true) (tk : Takes X W) (hr : Room (k + 1) X.A) (hg : Gl X x)
    (ha : PA X [e, e2] (LA (kj J X) X.mg W [fe, fe2])) (hdb : (x == ("__debug__" : Str)) = false := by decide) (he : starEach (e :: [e2]) X.env = (false, eval e X.env) :: starEach [e2] X.env := by rfl) (hpl : (backTo pos (starEach [e2] X.env)).any (·.1) = false := by rfl) :
    PS X (.Raise (some (.Call (.Name x p) [e, e2] [] pos)) none pos2) (LS (kj J X) X.mg W pr (sRaise x [f, g] [fe, fe2])) := by
  obtain ⟨C, fI, fd, ps, sp, hm, o, iC, tI, hf, hb, Fn, es⟩ := T.ex
  have es : sp = spI2 X.K C f g := es
  subst es
  refine PS.imp (ps_raise hc tk (pmk_oex o iC tI Fn hr hb .nil pass0 hg hm ha hdb he hpl)) fun D σ H h => ?_
  refine LA.imp (LS.raise h) fun vs H1 ⟨xs, ρ, F, rs, rx, hl, q⟩ => ?_
  match vs, hl, xs, rx with
  | [v, u], _, [y, z], .cons ry (.cons rz .nil) =>
    refine ⟨by simp, fun a hn => ⟨a, v, u, rfl, o, hf f List.mem_cons_self, hf g (List.mem_cons_of_mem _ List.mem_cons_self), upd_same, fun dx hdx hne => ⟨rfl, dx, [(g, u), (f, v)], upd_same, ?_, ?_, ?_⟩⟩⟩
    · rw [upd_ne hne, upd_same]
    · rw [upd_ne hne] at hdx
      exact hdx
    · have hd1 : H1 dx = none := by
        rw [upd_ne hne] at hdx
        exact hdx
      rw [upd_del2 hn hne]
      obtain ⟨r3, g3, s3⟩ := newF (o := .xd [(g, u), (f, v)]) rs hd1
      exact q _ _ _ _ r3 g3 ⟨C, hm, rfl, .inr ⟨dx, [(g, u), (f, v)], rfl, upd_same, rfl, .cons (rz.sub s3) (.cons (ry.sub s3) .nil)⟩⟩
end
end Dn
end

section
set_option Elab.async false
set_option linter.all false
set_option maxRecDepth 100000
set_option maxHeartbeats 4000000
/-! Dn: try, over the layer: clauses with and without a name, of one class or two. -/
namespace Dn
open PySem PySem.Spec PyProof.Rows L2
theorem flyingZ_keeps {B h h' : Heap} {l : List PySem.Env} {e : Addr} {Z : Obj → Prop} (R : HandSPX.FlyingZ B l e Z h) (k : ∀ b o, h.get? b = some o → h'.get? b = some o) : HandSPX.FlyingZ B l e Z h' := by
  obtain ⟨f1, f2, f3, oe, ws, T, oT, ts, he, hc, hd, h1, hn, hne, hT, hdT, h3⟩ := R
  exact ⟨fun b o q => k b o (f1 b o q), f2, f3.of_keeps fun b o q _ => ⟨o, k b o q, rfl⟩, oe, ws, T, oT, ts, k _ _ he, hc, hd, h1, hn, hne, k _ _ hT, hdT, h3⟩
/-- a clause's classes -/
inductive TstOk (X : Cx) : Expr → List Value → Prop
  | one {x : Str} {c : Value} {np : Pos} (h : Names X x c) : TstOk X (.Name x np) [c]
  | two {x y : Str} {c d : Value} {p1 p2 tp : Pos} {kk : Nat} (h1 : Names X x c) (h2 : Names X y d) : TstOk X (.Tuple [.Name x p1, .Name y p2] kk tp) [c, d]
/-- a clause's reading: its classes, its name's slot, its suite's -/
abbrev HdR := List Value × Option Nat × (Addr → Value → Option Addr → TS)
def DSet (i : Nat) (D : Ends) : Ends := { nx := fun σ' H' => D.nx (σ'.set i none) H', rt := D.rt, bk := fun σ' H' => D.bk (σ'.set i none) H', ct := fun σ' H' => D.ct (σ'.set i none) H' }
def runHd (t : HdR) (a : Addr) (cls : Value) (d : Option Addr) (D : Ends) (σ : L2.St) (H : Hp) : Prop := match t.2.1 with
  | none => t.2.2 a cls d D σ H
  | some i => t.2.2 a cls d (DSet i D) (σ.set i (some (.ref a))) H
def wHds (K : PySem.W.Frag) (Wout : WX) (D : Ends) : List HdR → WX
  | [] => Wout
  | t :: r => fun cls d σ H => ∃ b, PySem.W.exmAny K cls t.1 = some b ∧ (b = true → ∀ a, H a = none → runHd t a cls d D σ H) ∧ (b = false → wHds K Wout D r cls d σ H)
inductive HdsG (X : Cx) : List ExceptHandler → List HdR → Prop
  | nil : HdsG X [] []
  | only {te : Expr} {cs : List Value} {ts : Addr → Value → Option Addr → TS} {b₀ : Stmt} {suite : List Stmt} {pos' : Pos} {hds : List ExceptHandler} {l : List HdR} (hc : TstOk X te cs)
      (hsu : ∀ (a : Addr) (oe : Obj) (cls : Value) (d : Option Addr) (pn : List (Addr × Obj)), Zc cls d oe → (∃ vs, oe.data = .fields vs) → PSs (X.suite a ((a, oe) :: pn)) (b₀ :: suite) (ts a cls d)) (r : HdsG X hds l) :
      HdsG X (.ExceptHandler (some te) none (b₀ :: suite) pos' :: hds) ((cs, none, ts) :: l)
  | as {te : Expr} {cs : List Value} {i : Nat} {n : Str} {ts : Addr → Value → Option Addr → TS} {b₀ : Stmt} {suite : List Stmt} {pos' : Pos} {hds : List ExceptHandler} {l : List HdR} (hc : TstOk X te cs)
      (hN : X.N.Nodup) (hi : X.N[i]? = some n) (hln : X.env.kindOf n = some .local)
      (hsu : ∀ (a : Addr) (oe : Obj) (cls : Value) (d : Option Addr) (pn : List (Addr × Obj)), Zc cls d oe → (∃ vs, oe.data = .fields vs) → PSs (X.suite a ((a, oe) :: pn)) (b₀ :: suite) (ts a cls d)) (r : HdsG X hds l) :
      HdsG X (.ExceptHandler (some te) (some n) (b₀ :: suite) pos' :: hds) ((cs, some i, ts) :: l)
section
variable {X : Cx} {pins : List (Addr × Obj)} {σ : L2.St} {H : Hp} {s : Shared} {a : Addr} {oe : Obj} {cls : Value} {cs : List Value} {te : Expr} {b : Bool} {pn : List (Addr × Obj)}
theorem tst_ok {Q : Bool → Shared → Prop} {E : Value → Shared → Prop} (T : TstOk X te cs) (S : Inv (X.suite a pn) [] σ H s) (he : s.heap.get? a = some oe) (hz : oe.cls = cls) (hx : PySem.W.exmAny X.K cls cs = some b)
    (q : ∀ h', (∀ b o, s.heap.get? b = some o → h'.get? b = some o) → Q b { s with heap := h' }) :
    wpAny (model X.prog X.w) (X.A.mark (some (.ref a))) (eval te X.env) (fun c s₁ => wpAny (model X.prog X.w) (X.A.mark (some (.ref a))) (excMatches (.ref a) c) Q E s₁) E s := by
  have LT : PySem.W.Looks (model X.prog X.w) s.heap (typeOf (.ref a)) cls := fun A Q E s k q => wpAny_typeOf_ref (k _ _ he) (by rw [hz]; exact q)
  have nm : ∀ {x : Str} {np : Pos} {c : Value} {Q : Value → Shared → Prop} {E : Value → Shared → Prop}, Names X x c → Q c s → wpAny (model X.prog X.w) (X.A.mark (some (.ref a))) (eval (.Name x np) X.env) Q E s := fun {x np c Q E} hc q => by
    obtain ⟨hg, hdbg, hm | ⟨hm, hv, hnn⟩⟩ := hc
    · exact ld_glob (X := X.suite a pn) S hg hm q hdbg
    · exact ld_blt (X := X.suite a pn) S hg hm hv q hnn hdbg
  cases T with
  | @one x c np h =>
    obtain ⟨b1, d1, e1, e2, e3⟩ := PySem.W.exmAny_cons hx
    cases (show some false = some d1 from e2)
    rw [Bool.or_false] at e3
    subst e3
    exact nm h ((PySem.W.exm_one (M := model X.prog X.w) S.kIn LT e1).here (q s.heap fun _ _ z => z))
  | two h1 h2 =>
    refine wpAny_Tuple ?_
    refine wpAny_items_cons (nm h1 ?_)
    refine wpAny_items_cons (nm h2 ?_)
    refine wpAny_items_nil ⟨by rw [sizeLine_eq]; simp, ?_⟩
    rename_i c d _ _ _ _
    have kp : ∀ q o, s.heap.get? q = some o → (s.heap.push { cls := .type "tuple", data := .seq [c, d].toArray }).get? q = some o := fun _ _ z => Heap.get?_push_of_some _ z
    exact (PySem.W.exm_tup2 (S.kIn.keeps kp) (LT.keeps kp) (Heap.get?_push_size s.heap rfl) hx).here (q _ kp)
end
section
variable {X : Cx} {body : List Stmt} {h₀ : ExceptHandler} {hds : List ExceptHandler} {l : List HdR} {pos : Pos} {tb : WX → TS} {Wout : WX}
theorem ps_tryG (hs : X.stack = X.env :: X.outer) (hf : X.env.frame = some X.env.locals) (tk : Takes X Wout)
    (hb : ∀ (W : WX) (pn : List (Addr × Obj)) (xe : Value → Shared → Prop), Takes (X.tr pn xe) W → PassesOwn (model X.prog X.w) X.A X.env xe → PSs (X.tr pn xe) body (tb W))
    (hh : HdsG X (h₀ :: hds) l) : PS X (.Try body (h₀ :: hds) [] [] pos) (fun D σ H => tb (wHds X.K Wout D l) D σ H) := by
  refine ⟨fun pins s σ H D I h => ?_⟩
  have ok := I.ok
  have hfr : X.A.frames = some (X.env :: X.outer) := by rw [ok.frames, hs]
  refine wpAny_Try_except ?_
  refine wpAny_mono ((hb (wHds X.K Wout D l) (X.pn ++ pins) (fun e s₁ => wpAny (model X.prog X.w) X.A (noteFrame e X.env) (fun _ s₂ => wpAny (model X.prog X.w) X.A (setFlight e none) (fun _ s₃ =>
    wpAny (model X.prog X.w) X.A (handleBy e X.env (h₀ :: hds)) (SP X pins D) X.xe s₃) X.xe s₂) X.xe s₁) (fun u s' xx => ?_) PassesOwn.looking).run [] s σ H D (I.toTry _) h) (fun f s1 hsp => ?_) (fun e s1 he => he)
  · -- the catch
    obtain ⟨a, B, sI, pins', σ', H', cls, d, rfl, J', nb, up, sky, na, os, ag, w⟩ := xx
    have J : Inv X pins σ' H' sI := J'.ofTry ok
    have sky' : Sky B (X.env :: X.outer) a (Zc cls d) X.env.locals s'.heap := by rw [← hs]; exact sky
    show wpAny (model X.prog X.w) X.A (noteFrame (.ref a) X.env) _ _ _
    refine Sky.land Zc.steady hfr hf sky' fun h3 fl3 up3 => ?_
    have notFr : ∀ {h : Heap} {o : Obj} {vs : Array Value}, h.FunFrames B (X.env :: X.outer) → h.get? a = some o → o.data = .fields vs → a ∉ frs (X.env :: X.outer) := fun {h o vs} ff e dd hm => by
      obtain ⟨_, o', e', hnf⟩ := ff.mem hm
      rw [e] at e'; cases e'
      exact hnf _ dd
    have go : ∀ {hds' : List ExceptHandler} {l' : List HdR}, HdsG X hds' l' → ∀ h3 : Heap, HandSPX.FlyingZ B (X.env :: X.outer) a (Zc cls d) h3 → s'.heap.UpToSlots h3 → wHds X.K Wout D l' cls d σ' H' →
        wpAny (model X.prog X.w) X.A (handleBy (.ref a) X.env hds') (SP X pins D) X.xe { s' with heap := h3 } := by
      intro hds' l' hk
      induction hk with
      | nil =>
        intro h3 fl3 up3 w
        refine wpAny_handleBy_nil ?_
        obtain ⟨k1, k2, k3, oe, vs, T, oT, ts', he, hz, hd, h1, hr⟩ := id fl3
        unfold PySem.passOn
        refine wpAny_bind (wpAny_field he hd h1 ?_)
        rw [if_neg (show ¬ ((Value.ref T == Value.none) = true) from by simp)]
        have fin : wpAny (model X.prog X.w) X.A (setFlight (.ref a) X.env.frame) (fun _ s4 => wpAny (model X.prog X.w) X.A (throw (.ref a) : Sem Flow) (SP X pins D) X.xe s4) X.xe { s' with heap := h3 } := by
          rw [hf]
          refine HandSPX.setFlight_upZ fl3 fun h4 hh4 up4 => wpAny_throw (tk _ _ ?_)
          exact ⟨a, B, sI, pins, σ', H', cls, d, rfl, J, nb, (up.trans up3).trans up4, .inr (.inr (by rw [hs]; exact hh4)), na, os, ag, w⟩
        first
          | exact wpAny_bind (wpAny_pure (wpAny_bind fin))
          | exact wpAny_bind fin
      | @only te cs ts b₀ suite pos' hds2 l2 hc hsu r ih =>
        intro h3 fl3 up3 w
        obtain ⟨b, hb1, hyes, hno⟩ := w
        have J3 : Inv X pins σ' H' { s' with heap := h3 } := J.landed nb fl3.1 (up.trans up3) os ag
        obtain ⟨oe3, vs3, he3, hz3, hd3⟩ := fl3.there
        have nfr := notFr fl3.2.2.1 he3 hd3
        have nL : a ≠ X.env.locals := fun z => nfr (List.mem_filterMap.mpr ⟨X.env, List.mem_cons_self, by rw [hf, z]⟩)
        have nF : a ∉ X.fs := fun hm => by
          obtain ⟨e, he, q⟩ := List.mem_filterMap.mp hm
          exact nfr (List.mem_filterMap.mpr ⟨e, List.mem_cons_of_mem _ he, q⟩)
        have S3 := J3.suite he3 hd3 na nL nF
        refine wpAny_handleBy_cons (codeAny_handlers_test ?_) (by intro q; cases q)
        refine tst_ok (pn := (a, oe3) :: (X.pn ++ pins)) hc S3 he3 hz3.1 hb1 fun h5 k5 => ?_
        have fl5 := flyingZ_keeps fl3 k5
        have up5 := up3.trans (Heap.UpToSlots.of_keeps k5)
        cases b with
        | true =>
          refine codeAny_handlers_suite ?_
          refine HandSPX.lands_againZ fl5 fun h4 fl4 up4 => ?_
          have J4 : Inv X pins σ' H' { s' with heap := h4 } := J.landed nb fl4.1 ((up.trans up5).trans up4) os ag
          obtain ⟨oe4, vs4, he4, hz4, hd4⟩ := fl4.there
          have S4 := J4.suite he4 hd4 na nL nF
          refine wpAny_mono ((hsu a oe4 cls d (X.pn ++ pins) hz4 ⟨_, hd4⟩).run [] _ _ H' _ S4 (hyes rfl a na)) (fun f s6 hsp => ?_) (fun _ _ z => False.elim z)
          cases f with
          | next =>
            obtain ⟨σ6, H6, S6, q6⟩ := hsp
            exact ⟨_, _, S6.unsuite ok, q6⟩
          | brk =>
            obtain ⟨σ6, H6, S6, q6⟩ := hsp
            exact ⟨_, _, S6.unsuite ok, q6⟩
          | cont =>
            obtain ⟨σ6, H6, S6, q6⟩ := hsp
            exact ⟨_, _, S6.unsuite ok, q6⟩
          | ret u =>
            obtain ⟨v6, σ6, H6, S6, r6, q6⟩ := hsp
            exact ⟨_, _, _, S6.unsuite ok, r6, q6⟩
        | false =>
          show wpAny _ X.A (handleBy (.ref a) X.env hds2) _ _ _
          exact ih h5 fl5 up5 (hno rfl)
      | @as te cs i n ts b₀ suite pos' hds2 l2 hc hN hi hln hsu r ih =>
        intro h3 fl3 up3 w
        obtain ⟨b, hb1, hyes, hno⟩ := w
        have hloc : Loc X.env.scope n := .inl hln
        have J3 : Inv X pins σ' H' { s' with heap := h3 } := J.landed nb fl3.1 (up.trans up3) os ag
        obtain ⟨oe3, vs3, he3, hz3, hd3⟩ := fl3.there
        have nfr := notFr fl3.2.2.1 he3 hd3
        have nL : a ≠ X.env.locals := fun z => nfr (List.mem_filterMap.mpr ⟨X.env, List.mem_cons_self, by rw [hf, z]⟩)
        have nF : a ∉ X.fs := fun hm => by
          obtain ⟨e, he, q⟩ := List.mem_filterMap.mp hm
          exact nfr (List.mem_filterMap.mpr ⟨e, List.mem_cons_of_mem _ he, q⟩)
        have S3 := J3.suite he3 hd3 na nL nF
        refine wpAny_handleBy_cons (codeAny_handlers_test ?_) (by intro q; cases q)
        refine tst_ok (pn := (a, oe3) :: (X.pn ++ pins)) hc S3 he3 hz3.1 hb1 fun h5 k5 => ?_
        have fl5 := flyingZ_keeps fl3 k5
        have up5 := up3.trans (Heap.UpToSlots.of_keeps k5)
        cases b with
        | true =>
          refine codeAny_handlers_suite_as ?_
          refine HandSPX.lands_againZ fl5 fun h4 fl4 up4 => ?_
          have J4 : Inv X pins σ' H' { s' with heap := h4 } := J.landed nb fl4.1 ((up.trans up5).trans up4) os ag
          obtain ⟨oe4, vs4, he4, hz4, hd4⟩ := fl4.there
          have S4 := J4.suite he4 hd4 na nL nF
          refine store_ok (X := X.suite a ((a, oe4) :: (X.pn ++ pins))) (v := .ref a) S4 hN hi hloc rfl (fun s5 S5 => ?_) (.inr hln)
          refine wpAny_mono ((hsu a oe4 cls d (X.pn ++ pins) hz4 ⟨_, hd4⟩).run [] s5 _ H' _ S5 (hyes rfl a na)) (fun f s6 hsp => ?_) (fun _ _ z => False.elim z)
          have end_ : ∀ {σ6 : L2.St} {H6 : Hp} {Q : Shared → Prop}, Inv (X.suite a ((a, oe4) :: (X.pn ++ pins))) [] σ6 H6 s6 → (∀ s7, Inv X pins (σ6.set i none) H6 s7 → Q s7) →
              wpAny (model X.prog X.w) X.A (do bindName X.env n .none; unbindBehindTheSuite X.env n pos') (fun _ s7 => Q s7) X.xe s6 := fun {σ6 H6 Q} S6 hq => gone_ok (S6.unsuite ok) hN hi hln hq
          cases f with
          | next =>
            obtain ⟨σ6, H6, S6, q6⟩ := hsp
            exact end_ S6 fun s7 J7 => ⟨_, _, J7, q6⟩
          | brk =>
            obtain ⟨σ6, H6, S6, q6⟩ := hsp
            exact end_ S6 fun s7 J7 => ⟨_, _, J7, q6⟩
          | cont =>
            obtain ⟨σ6, H6, S6, q6⟩ := hsp
            exact end_ S6 fun s7 J7 => ⟨_, _, J7, q6⟩
          | ret u =>
            obtain ⟨v6, σ6, H6, S6, r6, q6⟩ := hsp
            exact end_ S6 fun s7 J7 => ⟨_, _, _, J7, r6, q6⟩
        | false =>
          show wpAny _ X.A (handleBy (.ref a) X.env hds2) _ _ _
          exact ih h5 fl5 up5 (hno rfl)
    exact go hh h3 fl3 up3 w
  · cases f with
    | next =>
      obtain ⟨σ', H', J', q⟩ := hsp
      exact wpAny_execs_nil ⟨σ', H', J'.ofTry ok, q⟩
    | brk =>
      obtain ⟨σ', H', J', q⟩ := hsp
      exact ⟨σ', H', J'.ofTry ok, q⟩
    | cont =>
      obtain ⟨σ', H', J', q⟩ := hsp
      exact ⟨σ', H', J'.ofTry ok, q⟩
    | ret u =>
      obtain ⟨v, σ', H', J', r, q⟩ := hsp
      exact ⟨v, σ', H', J'.ofTry ok, r, q⟩
end
end Dn
end

section
set_option Elab.async false
set_option linter.all false
set_option maxRecDepth 100000
set_option maxHeartbeats 4000000
/-! Dn: isinstance of a caught exception that may have a dict. -/
namespace Dn
namespace EI
open PySem PySem.Spec PySem.Calls PyProof.Rows PySem.W
section
variable {prog : Program} {w : World} {A : Around} {E : Value → Shared → Prop} {s : Shared} {K : Frag} {x D : Addr} {ox : Obj} {od : Option Obj}
theorem kin_classE {Q : Option Value → Shared → Prop} (hga : findIn K (.ref D) "__getattribute__" = some (some (.builtin "BaseException.__getattribute__"))) (hgt : findIn K (.ref D) "__getattr__" = some none) (hsub : subIn K (.ref D) (.type "BaseException") = some true)
    (hdct : hasDictIn K D = true) (ha : findIn K (.ref D) "__class__" = some (some (.builtin "object.__class__")))
    (hn : specialIn K (.builtin "object.__class__") "__get__" = some (some (.builtin "getset_descriptor.__get__"))) (htk : takesIn K (.builtin "object.__class__") = some true) (hm : mroIn K D (.type "object") = some true)
    (X : K.In s.heap) (I : InstAt s.heap x ox D od) (h : Q (some (.ref D)) { s with toks := s.toks + 1 }) : wpAny (model prog w) A (getAttr? (.ref x) "__class__") Q E s := by
  have hf : findObj K D od "__class__" = some (.bind (.builtin "getset_descriptor.__get__") (.builtin "object.__class__")) := by
    have hc : (clsIn K D).isSome = true := by obtain ⟨cd, hc, _⟩ := any_some hdct; rw [hc]; rfl
    cases od with
    | none => exact findObj_dataN hc ha hn htk
    | some o => exact findObj_data hc ha hn htk
  obtain ⟨hp, g, d, t, os⟩ := s
  have L0 := I.type (M := model prog w)
  have L1 := looks_findIn (M := model prog w) X hga
  have L2 := looks_findIn (M := model prog w) X hgt
  have L3 := looks_find (M := model prog w) X I hf
  have sub : Looks (model prog w) hp (isInstance (.ref x) (.type "BaseException")) true := L0.andThen (looks_subIn X hsub)
  have hx0 : (false && onTheHeap (Value.builtin "BaseException.__getattribute__")) = false := rfl
  have hx2 : (Value.builtin "BaseException.__getattribute__" == Value.builtin "object.__getattribute__") = false := by decide +kernel
  have hx1 : (onTheHeap (Value.ref D) && Value.builtin "BaseException.__getattribute__" == Value.builtin "object.__getattribute__") = false := by rw [hx2]; rfl
  unfold getAttr? getAttrBy? getAttrBy
  refine wpAny_bind (wpAny_mkText (wpAny_bind (wpAny_attempt (wpAny_holding (wpAny_bind (L0.at (wpAny_bind (L1.at ?_))))))))
  show wpAny _ _ (if (onTheHeap (Value.ref D) && Value.builtin "BaseException.__getattribute__" == Value.builtin "object.__getattribute__") = true then _ else _) _ _ _
  rw [hx1, if_neg Bool.false_ne_true]
  unfold getAttrByItsOwn hookBefore
  refine wpAny_bind ?_
  rw [if_pos (show onTheHeap (Value.ref D) = true from rfl)]
  refine L2.at ?_
  refine wpAny_bind (wpAny_attempt (wpAny_holding ?_))
  unfold callGetattribute
  rw [hx0, if_neg Bool.false_ne_true]
  unfold boundAndCalled
  rw [PySem.F.excAttr_ValueError.ga.bind (.ref x)]
  refine wpAny_bind (wpAny_pure ?_)
  show wpAny _ _ (call (.builtin "BaseException.__getattribute__") [.ref x, .str "__class__" t]) _ _ _
  refine wpAny_call (codeAny_call_builtin PySem.F.excAttr_ValueError.ga.plain PySem.F.entry_bexc_ga ?_)
  refine @check_slot (model prog w) _ _ ⟨hp, g, d, t + 1, os⟩ "BaseException.__getattribute__" "BaseException" "__getattribute__" (.ref x) [.str "__class__" t] [] _ (by decide +kernel) (by decide +kernel) sub (PySem.F.args_bexc_ga (.ref x) (.str "__class__" t)) ?_
  unfold Builtin.«object.__getattribute__»
  refine wpAny_bind (wpAny_of_eq (a := ((Value.ref x : Value), [Value.str "__class__" t])) (by first | rfl | (simp only [slotArgs]; rfl)) ?_)
  refine wpAny_bind (wpAny_pure (wpAny_bind (L0.at (wpAny_bind (L3.at ?_)))))
  show wpAny _ _ (holding [Value.builtin "object.__class__"] (call (.builtin "getset_descriptor.__get__") [.builtin "object.__class__", .ref x, .ref D]) >>= ret) _ _ _
  refine wpAny_bind (wpAny_holding (wpAny_call (class_get (s := ⟨hp, g, d, t + 1, os⟩) (ox := ox) (od := od) X I hm ?_)))
  refine wpAny_pure ?_
  show wpAny _ _ (handedOut (.ref D)) _ _ _
  rw [handedOut_of (v := .ref D) rfl]
  first
    | exact wpAny_pure (wpAny_pure h)
    | exact wpAny_pure h
    | exact wpAny_pure (wpAny_bind (wpAny_pure (wpAny_pure h)))
theorem kitx_exc (hga : findIn K (.ref D) "__getattribute__" = some (some (.builtin "BaseException.__getattribute__"))) (hgt : findIn K (.ref D) "__getattr__" = some none) (hsub : subIn K (.ref D) (.type "BaseException") = some true) (hdct : hasDictIn K D = true) (ha : findIn K (.ref D) "__class__" = some (some (.builtin "object.__class__")))
    (hn : specialIn K (.builtin "object.__class__") "__get__" = some (some (.builtin "getset_descriptor.__get__"))) (htk : takesIn K (.builtin "object.__class__") = some true) (hm : mroIn K D (.type "object") = some true) :
    KitX K (.ref x) (.ref D) (fun h => ∃ od, InstAt h x ox D od) where
  ty := fun _ _ _ ⟨_, I⟩ => I.type
  it := fun _ _ X _ => by
    obtain ⟨cdD, hcD, _⟩ := any_some hdct
    unfold clsIn at hcD
    split at hcD
    · rename_i c' d' cd' sl' ho
      intro A' Q' E' s' k q
      unfold isType loadHead
      exact wpAny_bind (wpAny_loadPart (k _ _ (X _ _ ho)) (wpAny_pure q))
    · cases hcD
  ne := fun h tp dd its n sl X htp => by
    obtain ⟨cdD, hcD, _⟩ := any_some hdct
    refine Bool.eq_false_iff.mpr fun q => ?_
    have e : D = tp := Value.ref.inj (beq_iff_eq.mp q)
    subst e
    unfold clsIn at hcD
    split at hcD
    · rename_i c' d' cd' sl' ho
      have z := (X _ _ ho).symm.trans htp
      cases z
    · cases hcD
  ca := fun X ⟨_, I⟩ k => kin_classE hga hgt hsub hdct ha hn htk hm X I k
end
end EI
open PySem PySem.Spec PyProof.Rows L2
/-- isinstance(e, c), isinstance(e, (c1, ..)), e the exception that the suite holds: at a, its dict d -/
def rIsE2 (K : PySem.W.Frag) (D a : Addr) (d : Option Addr) : List V → Hp → VK → Prop := fun xs H Q => (∀ dd, d = some dd → ∃ fs, H dd = some (.xd fs)) ∧
  ((∃ (c : V) (cv : Value) (b : Bool), xs = [.ref a, c] ∧ (∀ u, RelV c u → u = cv) ∧ PySem.W.kitOne K (.ref D) cv = some b ∧ Q (.bl b) H) ∨
   (∃ (tp : Addr) (cs : List V) (us : List Value) (b : Bool), xs = [.ref a, .ref tp] ∧ H tp = some (.tup cs) ∧ Paired ClsV cs us ∧ PySem.W.kitAny K (.ref D) us = some b ∧ Q (.bl b) H))
theorem call_isE2 {X : Cx} {a D : Addr} {d : Option Addr} {oe : Obj} {pn : List (Addr × Obj)} (C : ExcC X.K D) (hz : Zc (.ref D) d oe) (hf : ∃ vs, oe.data = .fields vs) : CallR (X.suite a ((a, oe) :: pn)) (.builtin "isinstance") (rIsE2 X.K D a d) := by
  intro pins s σ H xs us Q I r h
  obtain ⟨hdd, h⟩ := h
  obtain ⟨hget, _⟩ := I.pin (a, oe) (List.mem_append.mpr (.inl List.mem_cons_self))
  obtain ⟨vs, hv⟩ := hf
  have J : ∃ od, PySem.W.InstAt s.heap a oe D od := by
    cases d with
    | none =>
      refine ⟨none, ?_⟩
      obtain ⟨oc, od, oda, osl⟩ := oe
      obtain ⟨h1, h2⟩ := hz
      dsimp only at h1 h2 hv
      subst h1 h2 hv
      exact ⟨hget, rfl, rfl, trivial⟩
    | some dd =>
      obtain ⟨fs, e⟩ := hdd dd rfl
      have hx : ObjOk X.prog X.w H s.heap dd (.xd fs) := I.hok dd _ e
      obtain ⟨mA, hns, hr⟩ := hx
      obtain ⟨od, ho, hl⟩ := lookIn_ns hns
      exact ⟨some od, hget, hz.1, by unfold PySem.W.notCls; rw [hv] <;> rfl, by rw [hz.2]; exact ho⟩
  rcases h with ⟨c, cv, b, rfl, hcv, e, q⟩ | ⟨tp, cs, ws, b, rfl, hT, k, e, q⟩
  · cases r with
    | cons rx rr =>
      cases rr with
      | cons rt rr =>
        cases rr
        cases rx
        have ec := hcv _ rt
        subst ec
        exact PySem.W.kia_one (EI.kitx_exc C.hg C.hk C.hs C.hd C.ha C.hn C.ht C.hm) I.kIn J e (fun z => nomatch z) fun tk => ⟨.bl b, H, I.kept (t' := tk) fun _ _ z => z, rfl, q⟩
  · obtain ⟨u1, u2, rfl, r1, r2⟩ := vals2 r
    cases (show u2 = Value.ref tp from r2)
    cases (show u1 = Value.ref a from r1)
    obtain ⟨_, its, rv, o, h1, h2, n, h3⟩ := (show ObjOk X.prog X.w H s.heap tp (.tup cs) from I.hok tp _ hT)
    have e3 := ClsV.all k rv
    subst e3
    obtain ⟨oc, od, dt, sl⟩ := o
    simp only at h2 h3
    subst h2 h3
    exact PySem.W.kia_tup (EI.kitx_exc C.hg C.hk C.hs C.hd C.ha C.hn C.ht C.hm) I.kIn J h1 e (fun z => nomatch z) fun tk => ⟨.bl b, H, I.tok tk, rfl, q⟩
end Dn
end

section
set_option Elab.async false
set_option linter.all false
set_option maxRecDepth 100000
set_option maxHeartbeats 4000000
/-! Dn: try on data; what a suite asks of the exception. -/
namespace Dn
open PySem PySem.Spec PyProof.Rows L2
/-! ### from one link to another -/
section
variable {k : PySem.W.Frag} {j j' : Lk} {F : Hp}
mutual
theorem Rep.kp : ∀ {d : D} {v : V}, Rep ⟨k, j⟩ F d v → Rep ⟨k, j'⟩ F d v
  | _, _, .non => .non
  | _, _, .bl b => .bl b
  | _, _, .int i => .int i
  | _, _, .str x => .str x
  | _, _, .tup h r => .tup h (Reps.kp r)
  | _, _, .ktup h r => .ktup h (Reps.kp r)
  | _, _, .lst h r => .lst h (Reps.kp r)
  | _, _, .src h => .src h
  | _, _, .dK h e r => .dK h e (Reps.kp r)
  | _, _, .dT h e r => .dT h e (Reps.kp r)
theorem Reps.kp : ∀ {ds : List D} {vs : List V}, Reps ⟨k, j⟩ F ds vs → Reps ⟨k, j'⟩ F ds vs
  | _, _, .nil => .nil
  | _, _, .cons a b => .cons (Rep.kp a) (Reps.kp b)
end
theorem OwnO.kp {o : HO} {x : D} (h : OwnO ⟨k, j⟩ F o x) : OwnO ⟨k, j'⟩ F o x := by
  cases o with
  | lst xs => cases x with
    | lst ds => exact Reps.kp h
    | _ => exact h.elim
  | dK vs => cases x with
    | dK kvs => exact ⟨h.1, Reps.kp h.2⟩
    | _ => exact h.elim
  | dT vs => cases x with
    | dT kvs => exact ⟨h.1, Reps.kp h.2⟩
    | _ => exact h.elim
  | _ => cases x <;> exact h.elim
theorem OwnAt.kp {H : Hp} {p : Addr} {x : D} (h : OwnAt ⟨k, j⟩ F H p x) : OwnAt ⟨k, j'⟩ F H p x := by
  obtain ⟨o, a, b⟩ := h
  exact ⟨o, a, b.kp⟩
theorem XR.kp {mg : MG} {x : Exn} {cls : Value} {d : Option Addr} (h : XR ⟨k, j⟩ mg F x cls d) : XR ⟨k, j'⟩ mg F x cls d := by
  obtain ⟨C, a, b, c | ⟨dd, vs, c1, c2, c3, c4⟩⟩ := h
  · exact ⟨C, a, b, .inl c⟩
  · exact ⟨C, a, b, .inr ⟨dd, vs, c1, c2, c3, Reps.kp c4⟩⟩
theorem XR.sub {K : Fg} {mg : MG} {F F' : Hp} {x : Exn} {cls : Value} {d : Option Addr} (s : Sub F F') (h : XR K mg F x cls d) : XR K mg F' x cls d := by
  obtain ⟨C, a, b, c | ⟨dd, vs, c1, c2, c3, c4⟩⟩ := h
  · exact ⟨C, a, b, .inl c⟩
  · exact ⟨C, a, b, .inr ⟨dd, vs, c1, s _ _ c2, c3, Reps.sub s c4⟩⟩
end
/-- the exception that a suite holds: at a, of the class cls, its dict d -/
def lkE (K : PySem.W.Frag) (mg : MG) (a : Addr) (cls : Value) (d : Option Addr) : Lk := ⟨fun e a' F => a' = a ∧ XR (kn K) mg F e cls d, fun _ _ _ _ s h => ⟨h.1, h.2.sub s⟩⟩
def dropX : Option S → Option S
  | some (.x _) => none
  | o => o
/-- behind a suite: no exception is held -/
def clr (i : Nat) (ρ : Env) : Env := (ρ.map dropX).set i none
theorem gt_map {ρ : Env} {f : Option S → Option S} (h : f none = none) : ∀ {j : Nat}, gt (ρ.map f) j = f (gt ρ j) := by
  induction ρ with
  | nil => exact fun {j} => h.symm
  | cons a r ih =>
    intro j
    cases j with
    | zero => rfl
    | succ j => exact ih
theorem gt_clr {i j : Nat} {ρ : Env} {s : S} (h : gt (clr i ρ) j = some s) : j ≠ i ∧ gt ρ j = some s ∧ ∀ e, s ≠ .x e := by
  have hij : j ≠ i := fun z => by
    subst z
    unfold clr at h
    by_cases q : j < (ρ.map dropX).length
    · rw [gt_same q] at h
      cases h
    · have := gt_lt h
      rw [List.length_set] at this
      exact q this
  unfold clr at h
  rw [gt_ne hij, gt_map rfl] at h
  refine ⟨hij, ?_, ?_⟩
  · cases z : gt ρ j with
    | none => rw [z] at h; cases h
    | some t =>
      rw [z] at h
      cases t with
      | x e => cases h
      | d x => exact h
      | o x => exact h
  · intro e z
    subst z
    cases z : gt ρ j with
    | none => rw [z] at h; cases h
    | some t =>
      rw [z] at h
      cases t with
      | x e => cases h
      | d x => cases h
      | o x => cases h
section
variable {K : PySem.W.Frag} {J : Lk} {mg : MG} {σ : L2.St} {ρ : Env} {F H : Hp} {i : Nat}
theorem RS.fromNo (rs : RS (kn K) σ ρ F H) : RS ⟨K, J⟩ σ ρ F H :=
  ⟨rs.sub, rs.len, fun i x h => let ⟨v, a, b⟩ := rs.dat i x h; ⟨v, a, b.kp⟩, fun i x h => let ⟨p, a, b, c⟩ := rs.own i x h; ⟨p, a, b, c.kp⟩, rs.inj, fun i e h => let ⟨_, _, c⟩ := rs.exc i e h; c.elim⟩
/-- into a suite -/
theorem RS.suite {x : Exn} {a : Addr} {cls : Value} {d : Option Addr} (rs : RS (kn K) σ ρ F H) (hi : i < ρ.length) (xr : XR (kn K) mg F x cls d) :
    RS ⟨K, lkE K mg a cls d⟩ (σ.set i (some (.ref a))) (ρ.set i (some (.x x))) F H ∧ Gr σ ρ F H (σ.set i (some (.ref a))) (ρ.set i (some (.x x))) F H := by
  have hi2 : i < σ.length := by rw [← rs.len]; exact hi
  have so : ∀ (j : Nat), j ≠ i → (σ.set i (some (V.ref a)))[j]? = σ[j]? := fun j q => List.getElem?_set_ne (Ne.symm q)
  have old : ∀ (j : Nat) (s : Dn.S), gt (ρ.set i (some (.x x))) j = some s → (j = i ∧ s = .x x) ∨ (j ≠ i ∧ gt ρ j = some s) := fun j s h => by
    by_cases q : j = i
    · subst q
      rw [gt_same hi] at h
      cases h
      exact .inl ⟨rfl, rfl⟩
    · rw [gt_ne q] at h
      exact .inr ⟨q, h⟩
  refine ⟨⟨rs.sub, by rw [List.length_set, List.length_set]; exact rs.len, fun j y h => ?_, fun j y h => ?_, fun j k y z p h1 h2 h3 h4 => ?_, fun j e h => ?_⟩, ⟨fun _ _ _ => rfl, fun _ h => h, Sub.refl, fun _ _ _ h => h, fun p h => ?_⟩⟩
  · rcases old j _ h with ⟨_, e⟩ | ⟨q, h⟩
    · cases e
    · rw [so j q]
      obtain ⟨v, b1, b2⟩ := rs.dat j y h
      exact ⟨v, b1, b2.kp⟩
  · rcases old j _ h with ⟨_, e⟩ | ⟨q, h⟩
    · cases e
    · rw [so j q]
      obtain ⟨v, b1, b2, b3⟩ := rs.own j y h
      exact ⟨v, b1, b2, b3.kp⟩
  · rcases old j _ h1 with ⟨_, e⟩ | ⟨q1, h1⟩
    · cases e
    · rcases old k _ h2 with ⟨_, e⟩ | ⟨q2, h2⟩
      · cases e
      · rw [so j q1] at h3
        rw [so k q2] at h4
        exact rs.inj j k y z p h1 h2 h3 h4
  · rcases old j _ h with ⟨rfl, e⟩ | ⟨q, h⟩
    · cases e
      exact ⟨a, List.getElem?_set_self hi2, rfl, xr⟩
    · obtain ⟨_, _, c⟩ := rs.exc j e h
      exact c.elim
  · obtain ⟨j, y, h1, h2⟩ := h
    rcases old j _ h1 with ⟨_, e⟩ | ⟨q, h1⟩
    · cases e
    · rw [so j q] at h2
      exact .inl ⟨j, y, h1, h2⟩
/-- behind a suite -/
theorem RS.unsuite (rs : RS ⟨K, J⟩ σ ρ F H) : RS (kn K) (σ.set i none) (clr i ρ) F H ∧ Gr σ ρ F H (σ.set i none) (clr i ρ) F H ∧ ∀ p, Ow (clr i ρ) (σ.set i none) p → Ow ρ σ p := by
  have so : ∀ (j : Nat), j ≠ i → (σ.set i none)[j]? = σ[j]? := fun j q => List.getElem?_set_ne (Ne.symm q)
  have ow : ∀ p, Ow (clr i ρ) (σ.set i none) p → Ow ρ σ p := by
    rintro p ⟨j, y, h1, h2⟩
    obtain ⟨q, h1, _⟩ := gt_clr h1
    rw [so j q] at h2
    exact ⟨j, y, h1, h2⟩
  refine ⟨⟨rs.sub, ?_, fun j y h => ?_, fun j y h => ?_, fun j k y z p h1 h2 h3 h4 => ?_, fun j e h => ?_⟩, ⟨fun _ _ _ => rfl, fun _ h => h, Sub.refl, fun _ _ _ h => h, fun p h => .inl (ow p h)⟩, ow⟩
  · unfold clr
    rw [List.length_set, List.length_set, List.length_map]
    exact rs.len
  · obtain ⟨q, h, _⟩ := gt_clr h
    rw [so j q]
    obtain ⟨v, b1, b2⟩ := rs.dat j y h
    exact ⟨v, b1, b2.kp⟩
  · obtain ⟨q, h, _⟩ := gt_clr h
    rw [so j q]
    obtain ⟨v, b1, b2, b3⟩ := rs.own j y h
    exact ⟨v, b1, b2, b3.kp⟩
  · obtain ⟨q1, h1, _⟩ := gt_clr h1
    obtain ⟨q2, h2, _⟩ := gt_clr h2
    rw [so j q1] at h3
    rw [so k q2] at h4
    exact rs.inj j k y z p h1 h2 h3 h4
  · exact absurd rfl ((gt_clr h).2.2 e)
end
/-! ### the classes of exceptions of a text -/
/-- xs: their names; fl: their fields; rel x y: x is below y or is it -/
structure ExT (K : PySem.W.Frag) (mg : MG) (xs fl : List Str) (rel : Str → Str → Bool) : Prop where
  c : ∀ x ∈ xs, ∃ C, mg x = some (.ref C) ∧ ExcC K C ∧ PySem.W.typeIn K (.ref C) = some (.type "type") ∧ ∀ f ∈ fl, PySem.W.findIn K (.ref C) f = some none
  r : ∀ x ∈ xs, ∀ y ∈ xs, ∀ C D, mg x = some (.ref C) → mg y = some (.ref D) → PySem.W.subIn K (.ref C) (.ref D) = some (rel x y)
  i : ∀ x ∈ xs, ∀ y ∈ xs, ∀ C, mg x = some (.ref C) → mg y = some (.ref C) → rel x y = true
def excB (K : PySem.W.Frag) (D : Addr) : Bool := decide (PySem.W.findIn K (.ref D) "__getattribute__" = some (some (.builtin "BaseException.__getattribute__"))) && (decide (PySem.W.findIn K (.ref D) "__getattr__" = some none) && (decide (PySem.W.subIn K (.ref D) (.type "BaseException") = some true) && (PySem.W.hasDictIn K D &&
  (decide (PySem.W.findIn K (.ref D) "__class__" = some (some (.builtin "object.__class__"))) && (decide (PySem.W.specialIn K (.builtin "object.__class__") "__get__" = some (some (.builtin "getset_descriptor.__get__"))) && (decide (PySem.W.takesIn K (.builtin "object.__class__") = some true) && decide (PySem.W.mroIn K D (.type "object") = some true)))))))
theorem excB_ok {K : PySem.W.Frag} {D : Addr} (h : excB K D = true) : ExcC K D := by
  obtain ⟨h1, h⟩ := Bool.and_eq_true_iff.mp h
  obtain ⟨h2, h⟩ := Bool.and_eq_true_iff.mp h
  obtain ⟨h3, h⟩ := Bool.and_eq_true_iff.mp h
  obtain ⟨h4, h⟩ := Bool.and_eq_true_iff.mp h
  obtain ⟨h5, h⟩ := Bool.and_eq_true_iff.mp h
  obtain ⟨h6, h⟩ := Bool.and_eq_true_iff.mp h
  obtain ⟨h7, h8⟩ := Bool.and_eq_true_iff.mp h
  exact ⟨of_decide_eq_true h1, of_decide_eq_true h2, of_decide_eq_true h3, h4, of_decide_eq_true h5, of_decide_eq_true h6, of_decide_eq_true h7, of_decide_eq_true h8⟩
def extB (K : PySem.W.Frag) (xs fl : List Str) (rel : Str → Str → Bool) : Bool :=
  xs.all fun x => excB K (He.ga K x) && (decide (PySem.W.typeIn K (.ref (He.ga K x)) = some (.type "type")) && ((fl.all fun f => decide (PySem.W.findIn K (.ref (He.ga K x)) f = some none)) && xs.all fun y => decide (PySem.W.subIn K (.ref (He.ga K x)) (.ref (He.ga K y)) = some (rel x y)) && (rel x y || !decide (He.ga K x = He.ga K y))))
theorem extB_ok {K : PySem.W.Frag} {mg : MG} {xs fl : List Str} {rel : Str → Str → Bool} (h : extB K xs fl rel = true) (g : ∀ x ∈ xs, mg x = some (.ref (He.ga K x))) : ExT K mg xs fl rel := by
  have h := List.all_eq_true.mp h
  refine ⟨fun x hx => ?_, fun x hx y hy C D e1 e2 => ?_, fun x hx y hy C e1 e2 => ?_⟩
  · obtain ⟨h1, hh⟩ := Bool.and_eq_true_iff.mp (h x hx)
    obtain ⟨h2, hh⟩ := Bool.and_eq_true_iff.mp hh
    obtain ⟨h3, h4⟩ := Bool.and_eq_true_iff.mp hh
    exact ⟨_, g x hx, excB_ok h1, of_decide_eq_true h2, fun f hf => of_decide_eq_true (List.all_eq_true.mp h3 f hf)⟩
  · obtain ⟨h1, hh⟩ := Bool.and_eq_true_iff.mp (h x hx)
    obtain ⟨h2, hh⟩ := Bool.and_eq_true_iff.mp hh
    obtain ⟨h3, h4⟩ := Bool.and_eq_true_iff.mp hh
    have := of_decide_eq_true (Bool.and_eq_true_iff.mp (List.all_eq_true.mp h4 y hy)).1
    rw [g x hx] at e1
    rw [g y hy] at e2
    cases e1
    cases e2
    exact this
  · obtain ⟨h1, hh⟩ := Bool.and_eq_true_iff.mp (h x hx)
    obtain ⟨h2, hh⟩ := Bool.and_eq_true_iff.mp hh
    obtain ⟨h3, h4⟩ := Bool.and_eq_true_iff.mp hh
    have := (Bool.and_eq_true_iff.mp (List.all_eq_true.mp h4 y hy)).2
    rw [g x hx] at e1
    rw [g y hy] at e2
    have e : He.ga K x = He.ga K y := Value.ref.inj (Option.some.inj (e1.trans e2.symm))
    rw [decide_eq_true e, Bool.not_true, Bool.or_false] at this
    exact this
section
variable {K : PySem.W.Frag} {mg : MG} {xs fl : List Str} {rel : Str → Str → Bool}
def va (mg : MG) (x : Str) : Value := (mg x).getD .none
theorem va_of {mg : MG} {x : Str} {u : Value} (h : mg x = some u) : va mg x = u := by
  unfold va
  rw [h]
  rfl
theorem ExT.exm (T : ExT K mg xs fl rel) {x : Str} {C : Addr} (hx : x ∈ xs) (hC : mg x = some (.ref C)) : ∀ {ys : List Str}, (∀ y ∈ ys, y ∈ xs) → PySem.W.exmAny K (.ref C) (ys.map (va mg)) = some (ys.any (rel x))
  | [], _ => rfl
  | y :: ys, hy => by
    obtain ⟨D, hD, eD, tD, _⟩ := T.c y (hy y List.mem_cons_self)
    have h1 := T.r x hx y (hy y List.mem_cons_self) C D hC hD
    have h2 := PySem.W.exm_ref eD.hs eD.hd tD h1
    have h3 := ExT.exm T hx hC (ys := ys) fun z hz => hy z (List.mem_cons_of_mem _ hz)
    rw [List.map_cons, List.any_cons]
    unfold PySem.W.exmAny
    rw [va_of hD, h2, h3]
theorem ExT.kit (T : ExT K mg xs fl rel) {x y : Str} {C D : Addr} (hx : x ∈ xs) (hC : mg x = some (.ref C)) (hy : y ∈ xs) (hD : mg y = some (.ref D)) : PySem.W.kitOne K (.ref C) (.ref D) = some (rel x y) := by
  obtain ⟨D', hD', eD, tD, _⟩ := T.c y hy
  rw [hD] at hD'
  cases hD'
  have h1 := T.r x hx y hy C D hC hD
  have h2 := PySem.W.exm_ref eD.hs eD.hd tD h1
  unfold PySem.W.exmOne at h2
  rw [eD.hs] at h2
  rw [if_pos (by rfl)] at h2
  unfold PySem.W.kitOne
  split
  · rename_i z
    have z : C = D := Value.ref.inj (beq_iff_eq.mp z)
    subst z
    rw [T.i x hx y hy C hC hD]
  · exact h2
theorem ExT.kits (T : ExT K mg xs fl rel) {x : Str} {C : Addr} (hx : x ∈ xs) (hC : mg x = some (.ref C)) : ∀ {ys : List Str}, (∀ y ∈ ys, y ∈ xs) → PySem.W.kitAny K (.ref C) (ys.map (va mg)) = some (ys.any (rel x))
  | [], _ => rfl
  | y :: ys, hy => by
    obtain ⟨D, hD, _⟩ := T.c y (hy y List.mem_cons_self)
    have h2 := T.kit hx hC (hy y List.mem_cons_self) hD
    have h3 := ExT.kits T hx hC (ys := ys) fun z hz => hy z (List.mem_cons_of_mem _ hz)
    rw [List.map_cons, List.any_cons]
    unfold PySem.W.kitAny
    rw [va_of hD, h2]
    cases rel x y with
    | true => rfl
    | false => exact h3
end
end Dn
end

section
set_option Elab.async false
set_option linter.all false
set_option maxRecDepth 100000
set_option maxHeartbeats 4000000
/-! Dn: try on data. -/
namespace Dn
open PySem PySem.Spec PyProof.Rows L2
def noEx : Option (Ctl × Env) → Option (Ctl × Env)
  | some (.ex _, _) => none
  | o => o
/-- what a suite with a name gives -/
def unb (i : Nat) : Option (Ctl × Env) → Option (Ctl × Env)
  | some (.ex _, _) => none
  | some (.rt (.s _), _) => none
  | some (c, ρ) => some (c, clr i ρ)
  | none => none
abbrev HdD := List Str × Option Nat × DS
def runH (t : HdD) (x : Exn) : DS := match t.2.1 with
  | none => fun ρ => noEx (t.2.2 ρ)
  | some i => fun ρ => if i < ρ.length then unb i (t.2.2 (ρ.set i (some (.x x)))) else none
def hnd (xs : List Str) (rel : Str → Str → Bool) (x : Exn) : List HdD → DS
  | [] => fun ρ => some (.ex x, ρ)
  | t :: r => fun ρ => if xs.contains x.cls = true then (if t.1.any (rel x.cls) = true then runH t x ρ else hnd xs rel x r ρ) else none
def sTry (xs : List Str) (rel : Str → Str → Bool) (body : DS) (hs : List HdD) : DS := fun ρ => match body ρ with
  | some (.ex x, ρ1) => hnd xs rel x hs ρ1
  | o => o
section
variable {K : PySem.W.Frag} {mg : MG} {W : WX} {pr : Nat → Bool} {σ : L2.St} {ρ ρ' : Env} {F H : Hp} {xs fl : List Str} {rel : Str → Str → Bool} {body : DS} {D0 : Ends}
def tsD (K : PySem.W.Frag) (mg : MG) (pr : Nat → Bool) (t : HdD) : HdR := (t.1.map (va mg), t.2.1, match t.2.1 with
  | none => fun _ _ _ => LS (kn K) mg noX pr t.2.2
  | some _ => fun a cls d => LS ⟨K, lkE K mg a cls d⟩ mg noX pr t.2.2)
/-- the clauses are of classes of the text, their names are locals -/
def okH (xs : List Str) (pr : Nat → Bool) (t : HdD) : Prop := (∀ y ∈ t.1, y ∈ xs) ∧ ∀ i, t.2.1 = some i → pr i = false
theorem CE'.noex {Kp : Fg} {H0 : Hp} {σ' : L2.St} {F' H' : Hp} {c : Ctl} (hc : ∀ x, c ≠ .ex x) (h : CE' Kp mg W H0 σ' ρ' F' H' D0 c) : CE' Kp mg noX H0 σ' ρ' F' H' D0 c := by
  cases c with
  | ex x => exact absurd rfl (hc x)
  | _ => exact h
theorem noEx_some {o : Option (Ctl × Env)} {c : Ctl} (h : noEx o = some (c, ρ')) : o = some (c, ρ') ∧ ∀ x, c ≠ .ex x := by
  unfold noEx at h
  split at h
  · cases h
  · rename_i hn
    refine ⟨h, fun x z => ?_⟩
    subst z
    exact hn x ρ' h
theorem unb_some {i : Nat} {o : Option (Ctl × Env)} {c : Ctl} (h : unb i o = some (c, ρ')) : ∃ ρ2, o = some (c, ρ2) ∧ ρ' = clr i ρ2 ∧ (∀ x, c ≠ .ex x) ∧ ∀ j, c ≠ .rt (.s j) := by
  unfold unb at h
  split at h
  · cases h
  · cases h
  · rename_i c' ρ2 h1 h2
    cases h
    refine ⟨ρ2, rfl, rfl, fun x z => ?_, fun j z => ?_⟩
    · subst z
      exact h1 _ rfl
    · subst z
      exact h2 _ rfl
  · cases h
theorem LS.tryD (T : ExT K mg xs fl rel) {hs : List HdD} (hok : ∀ t ∈ hs, okH xs pr t) {D0 : Ends} {σ : L2.St} {H : Hp} (h : LS (kn K) mg W pr (sTry xs rel body hs) D0 σ H) :
    LS (kn K) mg (wHds K W D0 (hs.map (tsD K mg pr))) pr body D0 σ H := by
  obtain ⟨ρ, F, c, ρ', rs, e, q⟩ := h
  unfold sTry at e
  cases eb : body ρ with
  | none => rw [eb] at e; cases e
  | some w =>
    obtain ⟨c1, ρ1⟩ := w
    rw [eb] at e
    refine ⟨ρ, F, c1, ρ1, rs, eb, ?_⟩
    cases c1 with
    | nx => cases e; exact q
    | bk => cases e; exact q
    | ct => cases e; exact q
    | rt r => cases e; exact q
    | ex x =>
      intro σ1 F1 H1 rs1 g1 p1 cls d xr
      replace e : hnd xs rel x hs ρ1 = some (c, ρ') := e
      have q1 := q.shift g1 p1
      clear eb q g1 p1 rs
      induction hs with
      | nil =>
        cases e
        exact q1 σ1 F1 H1 rs1 Gr.refl (fun _ _ => rfl) cls d xr
      | cons t r ih =>
        unfold hnd at e
        split at e
        · rename_i hx
          have hx : x.cls ∈ xs := by simpa using hx
          obtain ⟨hy, hp⟩ := hok t List.mem_cons_self
          obtain ⟨C, hC, eC, _⟩ := id xr
          subst eC
          refine ⟨t.1.any (rel x.cls), T.exm hx hC hy, fun hb a ha => ?_, fun hb => ?_⟩
          · rw [if_pos hb] at e
            obtain ⟨ys, oi, g⟩ := t
            cases oi with
            | none =>
              obtain ⟨eg, hc⟩ := noEx_some (show noEx (g ρ1) = some (c, ρ') from e)
              exact ⟨ρ1, F1, c, ρ', rs1, eg, fun σ2 F2 H2 rs2 g2 p2 => (q1 σ2 F2 H2 rs2 g2 p2).noex hc⟩
            | some i =>
              have e : (if i < ρ1.length then unb i (g (ρ1.set i (some (.x x)))) else none) = some (c, ρ') := e
              split at e
              · rename_i hi
                obtain ⟨ρ2, eg, e2, hc, hc2⟩ := unb_some e
                subst e2
                obtain ⟨rsS, gS⟩ := rs1.suite (a := a) hi xr
                have hpi := hp i rfl
                refine ⟨_, F1, c, ρ2, rsS, eg, fun σ2 F2 H2 rs2 g2 p2 => ?_⟩
                obtain ⟨rs3, g3, ow3⟩ := rs2.unsuite (i := i)
                have pp : ∀ j : Nat, pr j = true → (σ2.set i none)[j]? = σ1[j]? := fun j hj => by
                  have ne : i ≠ j := fun z => by subst z; rw [hpi] at hj; cases hj
                  rw [List.getElem?_set_ne ne, p2 j hj, List.getElem?_set_ne ne]
                have q2 := q1 (σ2.set i none) F2 H2 rs3 (gS.trans (g2.trans g3)) pp
                cases c with
                | nx => exact q2
                | bk => exact q2
                | ct => exact q2
                | ex y => exact absurd rfl (hc y)
                | rt rr =>
                  intro v hv
                  refine q2 v ?_
                  cases rr with
                  | d y => exact Rep.kp hv
                  | s j => exact absurd rfl (hc2 j)
                  | o y =>
                    obtain ⟨p, ev, h0, no, hf, ow⟩ := hv
                    exact ⟨p, ev, h0, fun z => no (ow3 p z), hf, ow.kp⟩
              · cases e
          · rw [hb, if_neg Bool.false_ne_true] at e
            exact ih (fun t ht => hok t (List.mem_cons_of_mem _ ht)) e
        · cases e
end
/-! ### the rules by syntax -/
/-- a list of clauses and its functions -/
inductive HdsD (X : Cx) (xs : List Str) (pr : Nat → Bool) : List ExceptHandler → List HdD → Prop
  | nil : HdsD X xs pr [] []
  | only {te : Expr} {ys : List Str} {g : DS} {b₀ : Stmt} {suite : List Stmt} {pos' : Pos} {hds : List ExceptHandler} {l : List HdD} (hc : TstOk X te (ys.map (va X.mg))) (hy : ∀ y ∈ ys, y ∈ xs)
      (hsu : ∀ (a : Addr) (oe : Obj) (cls : Value) (d : Option Addr) (pn : List (Addr × Obj)), Zc cls d oe → (∃ vs, oe.data = .fields vs) → PSs (X.suite a ((a, oe) :: pn)) (b₀ :: suite) (LS (kj Lk.no (X.suite a ((a, oe) :: pn))) X.mg noX pr g)) (r : HdsD X xs pr hds l) :
      HdsD X xs pr (.ExceptHandler (some te) none (b₀ :: suite) pos' :: hds) ((ys, none, g) :: l)
  | as {te : Expr} {ys : List Str} {i : Nat} {n : Str} {g : DS} {b₀ : Stmt} {suite : List Stmt} {pos' : Pos} {hds : List ExceptHandler} {l : List HdD} (hc : TstOk X te (ys.map (va X.mg))) (hy : ∀ y ∈ ys, y ∈ xs)
      (hN : X.N.Nodup) (hi : X.N[i]? = some n) (hln : X.env.kindOf n = some .local) (hp : pr i = false)
      (hsu : ∀ (a : Addr) (oe : Obj) (cls : Value) (d : Option Addr) (pn : List (Addr × Obj)), Zc cls d oe → (∃ vs, oe.data = .fields vs) → PSs (X.suite a ((a, oe) :: pn)) (b₀ :: suite) (LS ⟨X.K, lkE X.K X.mg a cls d⟩ X.mg noX pr g)) (r : HdsD X xs pr hds l) :
      HdsD X xs pr (.ExceptHandler (some te) (some n) (b₀ :: suite) pos' :: hds) ((ys, some i, g) :: l)
theorem HdsD.g {X : Cx} {xs : List Str} {pr : Nat → Bool} : ∀ {hds : List ExceptHandler} {l : List HdD}, HdsD X xs pr hds l → HdsG X hds (l.map (tsD X.K X.mg pr)) ∧ ∀ t ∈ l, okH xs pr t
  | _, _, .nil => ⟨.nil, fun t h => by simp at h⟩
  | _, _, .only hc hy hsu r => by
    obtain ⟨a, b⟩ := HdsD.g r
    refine ⟨.only hc hsu a, fun t h => ?_⟩
    rcases List.mem_cons.mp h with e | h
    · subst e
      exact ⟨hy, fun i z => by cases z⟩
    · exact b t h
  | _, _, .as hc hy hN hi hln hp hsu r => by
    obtain ⟨a, b⟩ := HdsD.g r
    refine ⟨.as hc hN hi hln hsu a, fun t h => ?_⟩
    rcases List.mem_cons.mp h with e | h
    · subst e
      exact ⟨hy, fun i z => by cases z; exact hp⟩
    · exact b t h
section
variable {X : Cx} {body : List Stmt} {h₀ : ExceptHandler} {hds : List ExceptHandler} {l : List HdD} {pos : Pos} {W : WX} {xs fl : List Str} {rel : Str → Str → Bool} {pr : Nat → Bool} {g : DS}
theorem ps_tryD (T : ExT X.K X.mg xs fl rel) (tk : Takes X W)
    (hb : ∀ (W : WX) (pn : List (Addr × Obj)) (xe : Value → Shared → Prop), Takes (X.tr pn xe) W → PassesOwn (model X.prog X.w) X.A X.env xe → PSs (X.tr pn xe) body (LS (kj Lk.no (X.tr pn xe)) X.mg W pr g))
    (hh : HdsD X xs pr (h₀ :: hds) l) (hs : X.stack = X.env :: X.outer := by rfl) (hf : X.env.frame = some X.env.locals := by rfl) : PS X (.Try body (h₀ :: hds) [] [] pos) (LS (kj Lk.no X) X.mg W pr (sTry xs rel g l)) := by
  obtain ⟨h1, h2⟩ := hh.g
  exact PS.imp (ps_tryG (tb := fun W => LS (kn X.K) X.mg W pr g) hs hf tk hb h1) fun D σ H h => LS.tryD T h2 h
theorem tst1 {x : Str} {np : Pos} (T : ExT X.K X.mg xs fl rel) (hx : x ∈ xs) (hg : Gl X x) (hd : (x == ("__debug__" : Str)) = false := by decide) : TstOk X (.Name x np) ([x].map (va X.mg)) := by
  obtain ⟨C, hC, _⟩ := T.c x hx
  rw [List.map_cons, va_of hC]
  exact .one ⟨hg, hd, .inl hC⟩
theorem tst2 {x y : Str} {p1 p2 tp : Pos} {kk : Nat} (T : ExT X.K X.mg xs fl rel) (hx : x ∈ xs) (hy : y ∈ xs) (hg : Gl X x) (hg2 : Gl X y) (hd : (x == ("__debug__" : Str)) = false := by decide) (hd2 : (y == ("__debug__" : Str)) = false := by decide) : TstOk X (.Tuple [.Name x p1, .Name y p2] kk tp) ([x, y].map (va X.mg)) := by
  obtain ⟨C, hC, _⟩ := T.c x hx
  obtain ⟨D, hD, _⟩ := T.c y hy
  rw [List.map_cons, List.map_cons, va_of hC, va_of hD]
  exact .two ⟨hg, hd, .inl hC⟩ ⟨hg2, hd2, .inl hD⟩
theorem takes_su {a : Addr} {pn : List (Addr × Obj)} : Takes (X.suite a pn) noX := fun u s' ⟨_, _, _, _, _, _, _, _, _, _, _, _, _, _, _, _, w⟩ => w.elim
end
/-! ### in a suite: e.f, isinstance(e, ..) -/
def xFld (xs : List Str) (i : Nat) (f : Str) : DE := fun ρ => match gt ρ i with
  | some (.x e) => if xs.contains e.cls = true then (e.fs.lookup f).map fun x => (.ok (.d x), ρ) else none
  | _ => none
def xIsE (xs : List Str) (rel : Str → Str → Bool) (i : Nat) (ys : List Str) : DE := fun ρ => match gt ρ i with
  | some (.x e) => if xs.contains e.cls = true then some (.ok (.d (.bl (ys.any (rel e.cls)))), ρ) else none
  | _ => none
section
variable {X : Cx} {a : Addr} {oe : Obj} {cls : Value} {d : Option Addr} {pn : List (Addr × Obj)} {xs fl : List Str} {rel : Str → Str → Bool} {nm f : Str} {i : Nat}
theorem look_reps {K : Fg} {F : Hp} {f : Str} {x : D} : ∀ {fs : List (Str × D)} {vs : List (Str × V)}, vs.map (·.1) = fs.map (·.1) → Reps K F (fs.map (·.2)) (vs.map (·.2)) → fs.lookup f = some x → ∃ v, vs.lookup f = some v ∧ Rep K F x v
  | [], vs, _, _, h => by cases h
  | (g, y) :: fs, [], e, _, _ => by cases e
  | (g, y) :: fs, (g', v) :: vs, e, r, h => by
    have e1 : g' = g := (List.cons.inj e).1
    have e2 := (List.cons.inj e).2
    subst e1
    cases r with
    | cons ra rb =>
      by_cases hf : f = g'
      · subst hf
        have hl : List.lookup f ((f, y) :: fs) = some y := by simp [List.lookup]
        rw [hl] at h
        cases h
        exact ⟨v, by simp [List.lookup], ra⟩
      · have hb : (f == g') = false := by simpa using hf
        have hl : List.lookup f ((g', y) :: fs) = fs.lookup f := by simp [List.lookup, hb]
        rw [hl] at h
        obtain ⟨v', h1, h2⟩ := look_reps e2 rb h
        exact ⟨v', by simp [List.lookup, hb, h1], h2⟩
theorem pe_fldD {p1 pos : Pos} (T : ExT X.K X.mg xs fl rel) (hf : f ∈ fl) (hz : Zc cls d oe) (hfd : ∃ vs, oe.data = .fields vs) (hN : X.N[i]? = some nm) (hv : Vis X.env.scope nm := by first | exact Or.inl rfl | exact Or.inr (Or.inl rfl) | exact Or.inr (Or.inr rfl))
    (hd : (nm == ("__debug__" : Str)) = false := by decide) (hcd : (nm == ("__classdict__" : Str)) = false := by decide) (hb : attributeBase (.Name nm p1) f X.env (eval (.Name nm p1) X.env) = eval (.Name nm p1) X.env := by rfl) :
    PE (X.suite a ((a, oe) :: pn)) (.Attribute (.Name nm p1) f pos) (LE ⟨X.K, lkE X.K X.mg a cls d⟩ X.mg noX (xFld xs i f)) := by
  refine ⟨fun pins s σ H Q I h => ?_⟩
  obtain ⟨ρ, F, r, ρ', rs, e, q⟩ := h
  unfold xFld at e
  cases eg : gt ρ i with
  | none => rw [eg] at e; cases e
  | some s' =>
    rw [eg] at e
    cases s' with
    | d _ => cases e
    | o _ => cases e
    | x en =>
      dsimp only at e
      split at e
      · rename_i hx
        have hx : en.cls ∈ xs := by simpa using hx
        cases el : en.fs.lookup f with
        | none => rw [el] at e; cases e
        | some y =>
          rw [el] at e
          cases e
          obtain ⟨a', hσ, ea, C, hC, eC, c⟩ := rs.exc i en eg
          subst ea
          obtain ⟨C', hC', EC, _, hno⟩ := T.c _ hx
          rw [hC] at hC'
          cases hC'
          rcases c with ⟨c1, _⟩ | ⟨dd, vs, c1, c2, c3, c4⟩
          · rw [c1] at el
            cases el
          · obtain ⟨v, hl, rv⟩ := look_reps c3 c4 el
            exact (pe_xf (C := C) (te := tVar i) ⟨EC.hg, EC.hk, EC.hs, EC.hd⟩ (hno f hf) hz hfd (pe_var (X := X.suite a' ((a', oe) :: pn)) hN hv hd hcd) hb).run pins s σ H Q I ⟨.ref a', hσ, rfl, eC, dd, vs, v, c1, rs.sub _ _ c2, hl, q v F H rs Gr.refl (Rep.kp rv)⟩
      · cases e
theorem pe_isE1 {y : Str} {p0 p1 p2 pos : Pos} (T : ExT X.K X.mg xs fl rel) (hy : y ∈ xs) (hz : Zc cls d oe) (hfd : ∃ vs, oe.data = .fields vs) (hgi : Gl X "isinstance") (hmi : X.mg "isinstance" = none) (hgy : Gl X y) (hN : X.N[i]? = some nm) (hv : Vis X.env.scope nm := by first | exact Or.inl rfl | exact Or.inr (Or.inl rfl) | exact Or.inr (Or.inr rfl))
    (hd : (nm == ("__debug__" : Str)) = false := by decide) (hcd : (nm == ("__classdict__" : Str)) = false := by decide) (hdy : (y == ("__debug__" : Str)) = false := by decide)
    (he : starEach (.Name nm p1 :: [.Name y p2]) X.env = (false, eval (.Name nm p1) X.env) :: starEach [.Name y p2] X.env := by rfl) (he2 : starEach (.Name y p2 :: []) X.env = (false, eval (.Name y p2) X.env) :: starEach [] X.env := by rfl) (hpl : (backTo pos (starEach [.Name y p2] X.env)).any (·.1) = false := by rfl) :
    PE (X.suite a ((a, oe) :: pn)) (.Call (.Name "isinstance" p0) [.Name nm p1, .Name y p2] [] pos) (LE ⟨X.K, lkE X.K X.mg a cls d⟩ X.mg noX (xIsE xs rel i [y])) := by
  refine ⟨fun pins s σ H Q I h => ?_⟩
  obtain ⟨ρ, F, r, ρ', rs, e, q⟩ := h
  unfold xIsE at e
  cases eg : gt ρ i with
  | none => rw [eg] at e; cases e
  | some s' =>
    rw [eg] at e
    cases s' with
    | d _ => cases e
    | o _ => cases e
    | x en =>
      dsimp only at e
      split at e
      · rename_i hx
        have hx : en.cls ∈ xs := by simpa using hx
        cases e
        obtain ⟨a', hσ, ea, C, hC, eC, c⟩ := rs.exc i en eg
        subst ea
        subst eC
        obtain ⟨C', hC', EC, _, hno⟩ := T.c _ hx
        rw [hC] at hC'
        cases hC'
        obtain ⟨D, hD, _⟩ := T.c y hy
        have hr : [y].any (rel en.cls) = rel en.cls y := by simp
        refine (pe_callB (X := X.suite a' ((a', oe) :: pn)) (call_isE2 EC hz hfd) hgi hmi b_isinstance (pa_cons (pe_var hN hv hd hcd) (pa_cons (pe_glob (v := .ref D) hgy hD rfl hdy) pa_nil he2) he) (by decide) (by decide) he hpl).run pins s σ H Q I ⟨.ref a', hσ, ?_⟩
        refine ⟨fun dd ed => ?_, .inl ⟨.ref D, .ref D, rel en.cls y, rfl, fun u z => z, T.kit hx hC hy hD, ?_⟩⟩
        · rcases c with ⟨_, c2⟩ | ⟨dd', vs, c1, c2, c3, c4⟩
          · rw [c2] at ed
            cases ed
          · rw [c1] at ed
            cases ed
            exact ⟨vs, rs.sub _ _ c2⟩
        · rw [hr] at q
          exact q _ F H rs Gr.refl (.bl _)
      · cases e
end
end Dn
end

section
set_option Elab.async false
set_option linter.all false
set_option maxRecDepth 100000
set_option maxHeartbeats 4000000
/-! Dn: isinstance. -/
namespace Dn
open PySem PySem.Spec PyProof.Rows L2
/-! ### isinstance(e, (A, B, ..)) in a suite -/
inductive ClsEs (X : Cx) : List Expr → List Str → Prop
  | nil : ClsEs X [] []
  | cons {y : Str} {p : Pos} {es : List Expr} {ys : List Str} (hg : Gl X y) (hd : (y == ("__debug__" : Str)) = false) (hs : starEach (.Name y p :: es) X.env = (false, eval (.Name y p) X.env) :: starEach es X.env) (r : ClsEs X es ys) : ClsEs X (.Name y p :: es) (y :: ys)
section
variable {X : Cx} {a : Addr} {oe : Obj} {cls : Value} {d : Option Addr} {pn : List (Addr × Obj)} {xs fl : List Str} {rel : Str → Str → Bool} {nm f : Str} {i : Nat}
theorem ClsEs.pa (T : ExT X.K X.mg xs fl rel) : ∀ {es : List Expr} {ys : List Str}, ClsEs X es ys → (∀ y ∈ ys, y ∈ xs) → ∃ Ds : List Addr, ys.map (va X.mg) = Ds.map Value.ref ∧ PA X es (fun _ H Q => Q (Ds.map V.ref) H)
  | _, _, .nil, _ => ⟨[], rfl, PA.imp pa_nil fun _ _ _ h => h⟩
  | _, _, .cons (y := y) (p := p) hg hd hs r, hy => by
    obtain ⟨Ds, e, h⟩ := ClsEs.pa T r fun z hz => hy z (List.mem_cons_of_mem _ hz)
    obtain ⟨D, hD, _⟩ := T.c y (hy y List.mem_cons_self)
    refine ⟨D :: Ds, ?_, PA.imp (pa_cons (pe_glob (v := .ref D) hg hD rfl hd) h hs) fun _ _ _ h => h⟩
    rw [List.map_cons, List.map_cons, e, va_of hD]
theorem clsv : ∀ Ds : List Addr, Paired ClsV (Ds.map V.ref) (Ds.map Value.ref)
  | [] => .nil
  | D :: Ds => .cons (.own D) (clsv Ds)
theorem pe_isET {es : List Expr} {ys : List Str} {p0 p1 p2 pos : Pos} {kk : Nat} (T : ExT X.K X.mg xs fl rel) (hy : ∀ y ∈ ys, y ∈ xs) (hes : ClsEs (X.suite a ((a, oe) :: pn)) es ys) (hz : Zc cls d oe) (hfd : ∃ vs, oe.data = .fields vs) (hgi : Gl X "isinstance") (hmi : X.mg "isinstance" = none) (hN : X.N[i]? = some nm) (hl : ys.length ≤ 1000)
    (hv : Vis X.env.scope nm := by first | exact Or.inl rfl | exact Or.inr (Or.inl rfl) | exact Or.inr (Or.inr rfl))
    (hd : (nm == ("__debug__" : Str)) = false := by decide) (hcd : (nm == ("__classdict__" : Str)) = false := by decide)
    (he : starEach (.Name nm p1 :: [.Tuple es kk p2]) X.env = (false, eval (.Name nm p1) X.env) :: starEach [.Tuple es kk p2] X.env := by rfl) (he2 : starEach (.Tuple es kk p2 :: []) X.env = (false, eval (.Tuple es kk p2) X.env) :: starEach [] X.env := by rfl) (hpl : (backTo pos (starEach [.Tuple es kk p2] X.env)).any (·.1) = false := by rfl) :
    PE (X.suite a ((a, oe) :: pn)) (.Call (.Name "isinstance" p0) [.Name nm p1, .Tuple es kk p2] [] pos) (LE ⟨X.K, lkE X.K X.mg a cls d⟩ X.mg noX (xIsE xs rel i ys)) := by
  refine ⟨fun pins s σ H Q I h => ?_⟩
  obtain ⟨ρ, F, r, ρ', rs, e, q⟩ := h
  unfold xIsE at e
  cases eg : gt ρ i with
  | none => rw [eg] at e; cases e
  | some s' =>
    rw [eg] at e
    cases s' with
    | d _ => cases e
    | o _ => cases e
    | x en =>
      dsimp only at e
      split at e
      · rename_i hx
        have hx : en.cls ∈ xs := by simpa using hx
        cases e
        obtain ⟨a', hσ, ea, C, hC, eC, c⟩ := rs.exc i en eg
        subst ea
        subst eC
        obtain ⟨C', hC', EC, _, hno⟩ := T.c _ hx
        rw [hC] at hC'
        cases hC'
        have T' : ExT (X.suite a' ((a', oe) :: pn)).K (X.suite a' ((a', oe) :: pn)).mg xs fl rel := T
        obtain ⟨Ds, eDs, hPA⟩ := ClsEs.pa T' hes hy
        have hlen : Ds.length = ys.length := by
          have := congrArg List.length eDs
          simpa using this.symm
        refine (pe_callB (X := X.suite a' ((a', oe) :: pn)) (call_isE2 EC hz hfd) hgi hmi b_isinstance (pa_cons (pe_var hN hv hd hcd) (pa_cons (pe_tup hPA) pa_nil he2) he) (by decide) (by decide) he hpl).run pins s σ H Q I ⟨.ref a', hσ, ?_⟩
        refine ⟨by rw [List.length_map, hlen, sizeLine_eq]; omega, fun tp htp => ?_⟩
        have hF : F tp = none := by
          cases z : F tp with
          | none => rfl
          | some o => rw [rs.sub _ _ z] at htp; cases htp
        refine ⟨fun dd ed => ?_, .inr ⟨tp, Ds.map V.ref, Ds.map Value.ref, ys.any (rel en.cls), rfl, upd_same, clsv Ds, ?_, ?_⟩⟩
        · rcases c with ⟨_, c2⟩ | ⟨dd', vs, c1, c2, c3, c4⟩
          · rw [c2] at ed
            cases ed
          · rw [c1] at ed
            cases ed
            refine ⟨vs, ?_⟩
            have ne : dd ≠ tp := fun z => by rw [z, hF] at c2; cases c2
            rw [upd_ne ne]
            exact rs.sub _ _ c2
        · rw [← eDs]
          exact T.kits hx hC hy
        · obtain ⟨r1, g1, _⟩ := newF (o := .tup (Ds.map V.ref)) rs htp
          exact q _ _ _ r1 g1 (.bl _)
      · cases e
end
/-! ### isinstance of data -/
def tyN : D → String
  | .non => "NoneType"
  | .bl _ => "bool"
  | .int _ => "int"
  | .str _ => "str"
  | .tup _ => "tuple"
  | .ktup _ => "tuple"
  | .lst _ => "list"
  | .src _ => "list"
  | .dK _ => "dict"
  | .dT _ => "dict"
/-- of built-in types -/
def isTy (t T : String) : Bool := decide (t = T) || (decide (t = "bool") && decide (T = "int"))
def okTy (T : String) : Bool := ["int", "str", "bool", "tuple", "list", "dict"].contains T
section
variable {K : Fg} {mg : MG} {W : WX} {σ : L2.St} {ρ : Env} {F H : Hp} {x : D} {v : V} {f : DE}
theorem PK.ty (rs : RS K σ ρ F H) (h : PK K F H x v) : TyX K H v (.type (tyN x)) := by
  rcases h with h | ⟨p, rfl, _, o, ho, w⟩
  · cases h with
    | non => exact .base .non
    | bl b => exact .base (.bl b)
    | int i => exact .base (.int i)
    | str z => exact .base (.str z)
    | tup a b => exact .base (.tup (rs.sub _ _ a))
    | ktup a b =>
      have a := SqT.sub rs.sub a
      rcases a with (a | ⟨o, a⟩) | ⟨o, its, n, a1, a2, _⟩
      · exact .base (.tup a)
      · exact .fTuple a
      · exact .kTuple a1 a2
    | lst a b => exact .base (.lst (rs.sub _ _ a))
    | src a =>
      have a := SqL.sub rs.sub a
      rcases a with (a | ⟨o, a⟩) | ⟨o, its, n, a1, a2, _⟩
      · exact .base (.lst a)
      · exact .base (.frz a)
      · exact .kList a1 a2
    | dK a b c => exact .base (.dK (rs.sub _ _ a))
    | dT a b c => exact .base (.dT (rs.sub _ _ a))
  · cases o with
    | lst xs => cases x with
      | lst ds => exact .base (.lst ho)
      | _ => exact w.elim
    | dK vs => cases x with
      | dK ds => exact .base (.dK ho)
      | _ => exact w.elim
    | dT vs => cases x with
      | dT ds => exact .base (.dT ho)
      | _ => exact w.elim
    | _ => cases x <;> exact w.elim
theorem kitB_ok : ∀ (x : D) {T : String}, okTy T = true → kitB (tyN x) T = some (isTy (tyN x) T) := by
  have key : ∀ t ∈ ["NoneType", "bool", "int", "str", "tuple", "list", "dict"], ∀ T ∈ ["int", "str", "bool", "tuple", "list", "dict"], kitB t T = some (isTy t T) := by decide +kernel
  intro x T h
  refine key _ ?_ T (by simpa [okTy] using h)
  cases x <;> simp [tyN]
theorem kitA_ok {K : PySem.W.Frag} (x : D) : ∀ {Ts : List String}, Ts.all okTy = true → PySem.W.kitAny K (.type (tyN x)) (Ts.map Value.type) = some (Ts.any fun T => isTy (tyN x) T)
  | [], _ => rfl
  | T :: Ts, h => by
    rw [List.all_cons, Bool.and_eq_true] at h
    have h1 := kit_ty (K := K) (kitB_ok x h.1)
    have h2 := kitA_ok (K := K) x h.2
    rw [List.map_cons, List.any_cons]
    unfold PySem.W.kitAny
    rw [h1]
    cases isTy (tyN x) T with
    | true => rfl
    | false => exact h2
def kIsi (Ts : List String) (x : D) : Option R := if Ts.all okTy = true then some (.d (.bl (Ts.any fun T => isTy (tyN x) T))) else none
end
/-- the built-in types' names -/
inductive TyEs (X : Cx) : List Expr → List String → Prop
  | nil : TyEs X [] []
  | cons {y : Str} {T : String} {p : Pos} {es : List Expr} {Ts : List String} (hg : Gl X y) (hm : X.mg y = none) (hv : bootBuiltins y = some (.type T)) (hn : y ≠ "__name__") (hd : (y == ("__debug__" : Str)) = false) (hs : starEach (.Name y p :: es) X.env = (false, eval (.Name y p) X.env) :: starEach es X.env) (r : TyEs X es Ts) : TyEs X (.Name y p :: es) (T :: Ts)
section
variable {X : Cx} {W : WX} {J : Lk} {e : Expr} {f : DE} {p0 p2 pos : Pos}
theorem TyEs.pa : ∀ {es : List Expr} {Ts : List String}, TyEs X es Ts → PA X es (fun _ H Q => Q (Ts.map V.ty) H)
  | _, _, .nil => PA.imp pa_nil fun _ _ _ h => h
  | _, _, .cons (T := T) hg hm hv hn hd hs r => PA.imp (pa_cons (pe_bltn (v := .ty T) hg hm hv rfl hn hd) (TyEs.pa r) hs) fun _ _ _ h => h
theorem tyv : ∀ Ts : List String, Paired ClsV (Ts.map V.ty) (Ts.map Value.type)
  | [] => .nil
  | T :: Ts => .cons (.ty T) (tyv Ts)
theorem pe_isi1 {y : Str} {T : String} {p1 : Pos} (hgi : Gl X "isinstance") (hmi : X.mg "isinstance" = none) (he : PE X e (LE (kj J X) X.mg W f)) (ht : TyEs X [.Name y p1] [T])
    (hs : starEach (e :: [.Name y p1]) X.env = (false, eval e X.env) :: starEach [.Name y p1] X.env := by rfl) (hpl : (backTo pos (starEach [.Name y p1] X.env)).any (·.1) = false := by rfl) :
    PE X (.Call (.Name "isinstance" p0) [e, .Name y p1] [] pos) (LE (kj J X) X.mg W (o1 f (kIsi [T]))) :=
  PE.imp (pe_callB call_isi hgi hmi b_isinstance (pa_cons he ht.pa hs) (by decide) (by decide) hs hpl) fun σ H Q h => LE.one h fun x res v ρ F H1 rs hx e q => by
    unfold kIsi at e
    split at e
    · rename_i hT
      cases e
      have hT1 : okTy T = true := by simpa using hT
      refine ⟨v, .ty T, .type (tyN x), .type T, isTy (tyN x) T, rfl, .ty T, hx.ty rs, kit_ty (kitB_ok x hT1), ?_⟩
      have := q.dat rs (.bl _)
      simpa using this
    · cases e
theorem pe_isiT {es : List Expr} {Ts : List String} {kk : Nat} (hgi : Gl X "isinstance") (hmi : X.mg "isinstance" = none) (he : PE X e (LE (kj J X) X.mg W f)) (ht : TyEs X es Ts) (hl : Ts.length ≤ 1000)
    (hs : starEach (e :: [.Tuple es kk p2]) X.env = (false, eval e X.env) :: starEach [.Tuple es kk p2] X.env := by rfl) (hs2 : starEach (.Tuple es kk p2 :: []) X.env = (false, eval (.Tuple es kk p2) X.env) :: starEach [] X.env := by rfl) (hpl : (backTo pos (starEach [.Tuple es kk p2] X.env)).any (·.1) = false := by rfl) :
    PE X (.Call (.Name "isinstance" p0) [e, .Tuple es kk p2] [] pos) (LE (kj J X) X.mg W (o1 f (kIsi Ts))) :=
  PE.imp (pe_callB call_isiT hgi hmi b_isinstance (pa_cons he (pa_cons (pe_tup ht.pa) pa_nil hs2) hs) (by decide) (by decide) hs hpl) fun σ H Q h => LE.one h fun x res v ρ F H1 rs hx e q => by
    unfold kIsi at e
    split at e
    · rename_i hT
      cases e
      refine ⟨by rw [List.length_map, sizeLine_eq]; omega, fun tp htp => ?_⟩
      obtain ⟨r1, g1, s1⟩ := newF (o := .tup (Ts.map V.ty)) rs htp
      have hx1 : PK (kj J X) (upd F tp (.tup (Ts.map V.ty))) (upd H1 tp (.tup (Ts.map V.ty))) x v := by
        rcases hx with h | ⟨p, e1, e2, o, e3, e4⟩
        · exact .inl (h.sub s1)
        · have ne : p ≠ tp := fun z => by rw [z, htp] at e3; cases e3
          exact .inr ⟨p, e1, by rw [upd_ne ne]; exact e2, o, by rw [upd_ne ne]; exact e3, e4.sub s1⟩
      exact ⟨v, tp, Ts.map V.ty, .type (tyN x), Ts.map Value.type, _, rfl, upd_same, tyv Ts, hx1.ty r1, kitA_ok x hT, q _ _ _ r1 g1 (.bl _)⟩
    · cases e
end
end Dn
end

section
set_option Elab.async false
set_option linter.all false
set_option maxRecDepth 100000
set_option maxHeartbeats 4000000
/-! Dn: dicts. -/
namespace Dn
open PySem PySem.Spec PyProof.Rows L2
section
variable {K : Fg} {mg : MG} {W : WX} {pr : Nat → Bool} {σ : L2.St} {ρ ρ1 ρ' : Env} {F F1 H H1 H0 : Hp} {v u : V} {f fa fb : DE} {x y : D}
/-! ### keys, entries -/
def keyOf : D → Option Key
  | .int i => some (.inl i)
  | .str z => some (.inr z)
  | _ => none
def keysOf : List D → Option (List Key)
  | [] => some []
  | d :: ds => match keyOf d, keysOf ds with
    | some k, some ks => some (k :: ks)
    | _, _ => none
def valA {κ α : Type} [DecidableEq κ] (kvs : List (κ × α)) (k : κ) : Option α := (kvs.find? fun kv => decide (kv.1 = k)).map (·.2)
def putA {κ α : Type} [DecidableEq κ] (kvs : List (κ × α)) (k : κ) (v : α) : List (κ × α) := if (kvs.any fun kv => decide (kv.1 = k)) = true then kvs.map (fun kv => if kv.1 = k then (kv.1, v) else kv) else kvs ++ [(k, v)]
def dropA {κ α : Type} [DecidableEq κ] (kvs : List (κ × α)) (k : κ) : List (κ × α) := kvs.filter fun kv => decide (kv.1 ≠ k)
theorem Rep.key (h : Rep K F x v) {k : Key} (e : keyOf x = some k) : v = kV k := by
  cases h with
  | int i => cases e; rfl
  | str z => cases e; rfl
  | _ => cases e
theorem Reps.keys : ∀ {ds : List D} {vs : List V} {ks : List Key}, Reps K F ds vs → keysOf ds = some ks → vs = ks.map kV
  | _, _, ks, .nil, e => by cases e; rfl
  | d :: ds, v :: vs, ks, .cons a b, e => by
    unfold keysOf at e
    cases e1 : keyOf d with
    | none => rw [e1] at e; cases e
    | some k =>
      cases e2 : keysOf ds with
      | none => rw [e1, e2] at e; cases e
      | some ks' =>
        rw [e1, e2] at e
        cases e
        rw [a.key e1, Reps.keys b e2]
        rfl
theorem PK.key (h : PK K F H x v) {k : Key} (e : keyOf x = some k) : v = kV k := by
  rcases h with h | ⟨p, _, _, o, _, w⟩
  · exact h.key e
  · cases x with
    | int i => cases o <;> exact w.elim
    | str z => cases o <;> exact w.elim
    | _ => cases e
theorem PK.tupF {ds : List D} (h : PK K F H (.tup ds) v) : ∃ a xs, v = .ref a ∧ F a = some (.tup xs) ∧ Reps K F ds xs := by
  have h := h.tupR
  cases h with
  | tup a b => exact ⟨_, _, rfl, a, b⟩
/-- entries of data and of values -/
abbrev EA {κ : Type} (K : Fg) (F : Hp) (kvs : List (κ × D)) (vs : List (κ × V)) : Prop := vs.map (·.1) = kvs.map (·.1) ∧ Reps K F (kvs.map (·.2)) (vs.map (·.2))
section
variable {κ : Type} [DecidableEq κ]
theorem EA.nil : EA (κ := κ) K F [] [] := ⟨rfl, .nil⟩
theorem EA.cons_inv {p : κ × D} {kvs : List (κ × D)} {vs : List (κ × V)} (h : EA K F (p :: kvs) vs) : ∃ w vs', vs = (p.1, w) :: vs' ∧ Rep K F p.2 w ∧ EA K F kvs vs' := by
  obtain ⟨h1, h2⟩ := h
  cases vs with
  | nil => cases h1
  | cons q vs' =>
    have e1 := (List.cons.inj h1).1
    have e2 := (List.cons.inj h1).2
    rw [List.map_cons, List.map_cons] at h2
    cases h2 with
    | cons a b =>
      refine ⟨q.2, vs', ?_, a, e2, b⟩
      have e1 : q.1 = p.1 := e1
      rw [← e1]
theorem EA.cons {k : κ} {d : D} {w : V} {kvs : List (κ × D)} {vs : List (κ × V)} (a : Rep K F d w) (h : EA K F kvs vs) : EA K F ((k, d) :: kvs) ((k, w) :: vs) := ⟨by rw [List.map_cons, List.map_cons, h.1], by rw [List.map_cons, List.map_cons]; exact .cons a h.2⟩
theorem EA.sub {kvs : List (κ × D)} {vs : List (κ × V)} (s : Sub F F1) (h : EA K F kvs vs) : EA K F1 kvs vs := ⟨h.1, h.2.sub s⟩
theorem EA.length {kvs : List (κ × D)} {vs : List (κ × V)} (h : EA K F kvs vs) : vs.length = kvs.length := by
  have := congrArg List.length h.1
  simpa using this
theorem EA.val {k : κ} : ∀ {kvs : List (κ × D)} {vs : List (κ × V)}, EA K F kvs vs → (valA kvs k = none ∧ valV vs k = none) ∨ ∃ d w, valA kvs k = some d ∧ valV vs k = some w ∧ Rep K F d w
  | [], vs, h => by
    obtain ⟨h1, _⟩ := h
    cases vs with
    | nil => exact .inl ⟨rfl, rfl⟩
    | cons a b => cases h1
  | p :: kvs, vs, h => by
    obtain ⟨w, vs', rfl, a, b⟩ := h.cons_inv
    by_cases hk : p.1 = k
    · refine .inr ⟨p.2, w, ?_, ?_, a⟩
      · simp [valA, List.find?_cons, hk]
      · exact valV_pos hk
    · rcases EA.val (k := k) b with ⟨e1, e2⟩ | ⟨d, w2, e1, e2, e3⟩
      · refine .inl ⟨?_, (valV_neg hk).trans e2⟩
        rw [← e1]
        simp [valA, List.find?_cons, hk]
      · refine .inr ⟨d, w2, ?_, (valV_neg hk).trans e2, e3⟩
        rw [← e1]
        simp [valA, List.find?_cons, hk]
theorem EA.any {k : κ} : ∀ {kvs : List (κ × D)} {vs : List (κ × V)}, EA K F kvs vs → (vs.any fun kv => decide (kv.1 = k)) = kvs.any fun kv => decide (kv.1 = k)
  | [], vs, h => by
    obtain ⟨h1, _⟩ := h
    cases vs with
    | nil => rfl
    | cons a b => cases h1
  | p :: kvs, vs, h => by
    obtain ⟨w, vs', rfl, a, b⟩ := h.cons_inv
    rw [List.any_cons, List.any_cons, EA.any b]
theorem EA.repl {k : κ} {d : D} {w : V} (r : Rep K F d w) : ∀ {kvs : List (κ × D)} {vs : List (κ × V)}, EA K F kvs vs → EA K F (kvs.map fun kv => if kv.1 = k then (kv.1, d) else kv) (vs.map fun kv => if kv.1 = k then (kv.1, w) else kv)
  | [], vs, h => by
    obtain ⟨h1, _⟩ := h
    cases vs with
    | nil => exact .nil
    | cons a b => cases h1
  | p :: kvs, vs, h => by
    obtain ⟨w', vs', rfl, a, b⟩ := h.cons_inv
    rw [List.map_cons, List.map_cons]
    by_cases hk : p.1 = k
    · rw [if_pos hk, if_pos hk]
      exact .cons r (EA.repl r b)
    · rw [if_neg hk, if_neg hk]
      exact .cons a (EA.repl r b)
theorem EA.append {kvs kvs2 : List (κ × D)} {vs vs2 : List (κ × V)} (a : EA K F kvs vs) (b : EA K F kvs2 vs2) : EA K F (kvs ++ kvs2) (vs ++ vs2) := ⟨by rw [List.map_append, List.map_append, a.1, b.1], by rw [List.map_append, List.map_append]; exact a.2.append b.2⟩
theorem EA.put {k : κ} {d : D} {w : V} {kvs : List (κ × D)} {vs : List (κ × V)} (r : Rep K F d w) (h : EA K F kvs vs) : EA K F (putA kvs k d) (putK vs k w) := by
  unfold putA putK
  rw [h.any (k := k)]
  by_cases c : (kvs.any fun kv => decide (kv.1 = k)) = true
  · rw [if_pos c, if_pos c]
    exact h.repl r
  · rw [if_neg c, if_neg c]
    exact h.append (.cons r .nil)
theorem EA.drop {k : κ} : ∀ {kvs : List (κ × D)} {vs : List (κ × V)}, EA K F kvs vs → EA K F (dropA kvs k) (dropK vs k)
  | [], vs, h => by
    obtain ⟨h1, _⟩ := h
    cases vs with
    | nil => exact .nil
    | cons a b => cases h1
  | p :: kvs, vs, h => by
    obtain ⟨w', vs', rfl, a, b⟩ := h.cons_inv
    unfold dropA dropK
    rw [List.filter_cons, List.filter_cons]
    by_cases hk : decide (p.1 ≠ k) = true
    · rw [if_pos hk, if_pos (show decide ((p.1, w').1 ≠ k) = true from hk)]
      exact .cons a (EA.drop b)
    · rw [if_neg hk, if_neg (show ¬ decide ((p.1, w').1 ≠ k) = true from hk)]
      exact EA.drop b
end
theorem PK.dK {kvs : List (Key × D)} (s : Sub F H) (h : PK K F H (.dK kvs) v) : ∃ a vs, v = .ref a ∧ H a = some (.dK vs) ∧ EA K F kvs vs := by
  rcases h with h | ⟨p, rfl, _, o, ho, w⟩
  · cases h with
    | dK a b c => exact ⟨_, _, rfl, s _ _ a, b, c⟩
  · cases o with
    | dK vs => exact ⟨p, vs, rfl, ho, w⟩
    | _ => exact w.elim
theorem PK.dT {kvs : List (List Key × D)} (s : Sub F H) (h : PK K F H (.dT kvs) v) : ∃ a vs, v = .ref a ∧ H a = some (.dT vs) ∧ EA K F kvs vs := by
  rcases h with h | ⟨p, rfl, _, o, ho, w⟩
  · cases h with
    | dT a b c => exact ⟨_, _, rfl, s _ _ a, b, c⟩
  · cases o with
    | dT vs => exact ⟨p, vs, rfl, ho, w⟩
    | _ => exact w.elim
/-- what a dict holds at a key -/
def dGet : D → D → Option (Option D)
  | .dK kvs, k => (keyOf k).map fun k => valA kvs k
  | .dT kvs, .tup ks => (keysOf ks).map fun k => valA kvs k
  | _, _ => none
theorem dGet_ok (rs : RS K σ ρ F H) (hx : PK K F H x v) (hy : PK K F H y u) {o : Option D} (e : dGet x y = some o) :
    ∃ a r, v = .ref a ∧ DGet H a u r ∧ ((o = none ∧ r = none) ∨ ∃ d w, o = some d ∧ r = some w ∧ Rep K F d w) := by
  unfold dGet at e
  split at e
  · rename_i kvs k
    cases ek : keyOf y with
    | none => rw [ek] at e; cases e
    | some k =>
      rw [ek] at e
      cases e
      obtain ⟨a, vs, rfl, ha, ea⟩ := hx.dK rs.sub
      have := hy.key ek
      subst this
      exact ⟨a, _, rfl, DGet.k ha, (EA.val (k := k) ea)⟩
  · rename_i kvs ks
    cases ek : keysOf ks with
    | none => rw [ek] at e; cases e
    | some k =>
      rw [ek] at e
      cases e
      obtain ⟨a, vs, rfl, ha, ea⟩ := hx.dT rs.sub
      obtain ⟨b, xs, rfl, hb, rb⟩ := hy.tupF
      have := rb.keys ek
      subst this
      exact ⟨a, _, rfl, DGet.t ha (rs.sub _ _ hb), (EA.val (k := k) ea)⟩
  · cases e
def isDct : D → Bool
  | .dK _ => true
  | .dT _ => true
  | _ => false
theorem isDct_ok (rs : RS K σ ρ F H) (h : PK K F H x v) (e : isDct x = true) : ∃ a, v = .ref a ∧ IsD H a := by
  cases x with
  | dK kvs =>
    obtain ⟨a, vs, rfl, ha, _⟩ := h.dK rs.sub
    exact ⟨a, rfl, .inl ⟨vs, .inl ha⟩⟩
  | dT kvs =>
    obtain ⟨a, vs, rfl, ha, _⟩ := h.dT rs.sub
    exact ⟨a, rfl, .inr ⟨vs, .inl ha⟩⟩
  | _ => cases e
/-! ### subscripts, in -/
theorem ix_dict {X : Cx} (hu : X.A.units + 1 < cLine) : IxR X (fun x y H Q => ∃ a v, x = .ref a ∧ DGet H a y (some v) ∧ Q v H) := by
  intro value slice pins s σ H x y v u Q I rx ry h hs
  obtain ⟨a, w, rfl, g, q⟩ := h
  obtain rfl : v = Value.ref a := rx
  exact tail_any (dict_typeIs I g) slot_dict_getitem.lookup (d_getItem hu I g ry fun w' s' I' r => ⟨w, H, I', r, q⟩) hs
def kIx2 (x y : D) : Option R := if isDct x = true then (match dGet x y with
  | some (some d) => some (.d d)
  | _ => none) else kIx x y
theorem pe_ix2 {X : Cx} {a b : Expr} {pos : Pos} (hu : X.A.units + 65 < cLine) (ha : PE X a (LE (kj J X) X.mg W fa)) (hb : PE X b (LE (kj J X) X.mg W fb)) (hs : PlainIx b := by intro _ _; rfl) : PE X (.Subscript a b pos) (LE (kj J X) X.mg W (o2 fa fb kIx2)) :=
  PE.imp (pe_ix (IxR.or ix_seq (ix_dict (by omega))) ha hb hs) fun _ _ _ h => LE.two h fun x y res v u ρ F H rs hx hy e q => by
    unfold kIx2 at e
    split at e
    · split at e
      · rename_i d eg
        cases e
        obtain ⟨a, r, rfl, g, c⟩ := dGet_ok rs hx hy eg
        rcases c with ⟨c, _⟩ | ⟨d', w, c1, c2, c3⟩
        · cases c
        · cases c1
          subst c2
          exact .inr ⟨a, w, rfl, g, q.dat rs c3⟩
      · cases e
    · exact .inl (hIx x y res v u ρ F H rs hx hy e _ q)
theorem op_din {X : Cx} (hu : X.A.units + 1 < cLine) : OpR X (compareOp .In) (fun y x H Q => ∃ a o, x = .ref a ∧ DGet H a y o ∧ Q (.bl o.isSome) H) := by
  intro pins s σ H x y v u Q I rx ry h
  obtain ⟨a, o, rfl, g, q⟩ := h
  cases ry
  exact d_in hu I g rx fun s' I' => ⟨.bl o.isSome, H, I', rfl, q⟩
theorem op_dni {X : Cx} (hu : X.A.units + 1 < cLine) : OpR X (compareOp .NotIn) (fun y x H Q => ∃ a o, x = .ref a ∧ DGet H a y o ∧ Q (.bl (!o.isSome)) H) := by
  intro pins s σ H x y v u Q I rx ry h
  obtain ⟨a, o, rfl, g, q⟩ := h
  cases ry
  exact d_notIn hu I g rx fun s' I' => ⟨.bl (!o.isSome), H, I', rfl, q⟩
def kIn2 (x y : D) : Option R := if isDct y = true then (dGet y x).map fun o => .d (.bl o.isSome) else kIn x y
def kNi2 (x y : D) : Option R := if isDct y = true then (dGet y x).map fun o => .d (.bl !o.isSome) else kNi x y
theorem cIn2 {X : Cx} (hu : X.A.units + 65 < cLine) : CmpF X .In kIn2 (fun x y H Q => rIn3 X.K x y H Q ∨ ∃ a o, y = .ref a ∧ DGet H a x o ∧ Q (.bl o.isSome) H) := ⟨OpR.or (op_in3 hu) (op_din (by omega)), fun x y res v u ρ F H rs hx hy e Q q => by
  unfold kIn2 at e
  split at e
  · cases eg : dGet y x with
    | none => rw [eg] at e; cases e
    | some o =>
      rw [eg] at e
      cases e
      obtain ⟨a, r, rfl, g, c⟩ := dGet_ok rs hy hx eg
      refine .inr ⟨a, r, rfl, g, ?_⟩
      rcases c with ⟨c1, c2⟩ | ⟨d', w, c1, c2, c3⟩
      · subst c1 c2
        exact q.dat rs (.bl _)
      · subst c1 c2
        exact q.dat rs (.bl _)
  · exact .inl (hIn x y res v u ρ F H rs hx hy e _ q)⟩
theorem cNi2 {X : Cx} (hu : X.A.units + 65 < cLine) : CmpF X .NotIn kNi2 (fun x y H Q => rNi3 X.K x y H Q ∨ ∃ a o, y = .ref a ∧ DGet H a x o ∧ Q (.bl (!o.isSome)) H) := ⟨OpR.or (op_ni3 hu) (op_dni (by omega)), fun x y res v u ρ F H rs hx hy e Q q => by
  unfold kNi2 at e
  split at e
  · cases eg : dGet y x with
    | none => rw [eg] at e; cases e
    | some o =>
      rw [eg] at e
      cases e
      obtain ⟨a, r, rfl, g, c⟩ := dGet_ok rs hy hx eg
      refine .inr ⟨a, r, rfl, g, ?_⟩
      rcases c with ⟨c1, c2⟩ | ⟨d', w, c1, c2, c3⟩
      · subst c1 c2
        exact q.dat rs (.bl _)
      · subst c1 c2
        exact q.dat rs (.bl _)
  · exact .inl (hNi x y res v u ρ F H rs hx hy e _ q)⟩
/-! ### d.get -/
theorem LE.imp {Q Q' : VK} (h : LE K mg W f σ H Q) (i : ∀ v H1, Q v H1 → Q' v H1) : LE K mg W f σ H Q' := by
  obtain ⟨ρ, F, r, ρ', rs, e, q⟩ := h
  refine ⟨ρ, F, r, ρ', rs, e, ?_⟩
  cases r with
  | error x => exact q
  | ok a => exact fun v F' H' a b c => i v H' (q v F' H' a b c)
/-- a receiver that is p, then operands, then k -/
def mG (p : D → Bool) (f : DE) (fs : List DE) (k : D → List D → Option R) : DE := bE f fun a => fun ρ => match pk ρ (nrm a) with
  | some x => if p x = true then bE (eA fs) (fun as => fun ρ => match pk ρ (nrm a), pks ρ as with
    | some x, some xs => lft (k x xs) ρ
    | _, _ => none) ρ else none
  | none => none
theorem LE.mthG {p : D → Bool} {P : V → Hp → Prop} {fs : List DE} {k : D → List D → Option R} {G : V → List V → Hp → Prop} {Q : VK} (hp : ∀ x v ρ F H1, RS K σ ρ F H1 → PK K F H1 x v → p x = true → P v H1) (h : LE K mg W (mG p f fs k) σ H Q)
    (hop : ∀ x xs res v vs ρ F H1, RS K σ ρ F H1 → PK K F H1 x v → PKs K F H1 xs vs → k x xs = some res → FinR K σ ρ F H1 res Q → G v vs H1) : LE K mg W f σ H fun v H1 => P v H1 ∧ LA K mg W fs σ H1 fun vs H2 => G v vs H2 := by
  obtain ⟨ρ, F, rr, ρ', rs, e, q⟩ := h
  refine LE.opnd (k := fun a => fun ρ => match pk ρ a with
    | some x => if p x = true then bE (eA fs) (fun as => fun ρ => match pk ρ a, pks ρ as with
      | some x, some xs => lft (k x xs) ρ
      | _, _ => none) ρ else none
    | none => none) rs e (fun x hx => by subst hx; exact q) fun a v ρ1 F1 H1 rs1 g1 ro e1 => ?_
  cases ea0 : pk ρ1 a with
  | none => rw [ea0] at e1; cases e1
  | some x0 =>
    rw [ea0] at e1
    dsimp only at e1
    split at e1
    · rename_i hpx
      refine ⟨hp x0 v ρ1 F1 H1 rs1 (pk_ok rs1 ro ea0) hpx, ?_⟩
      refine LA.bind rs1 e1 (fun x hx => by subst hx; exact EX.trans g1 q) fun as vs ρ2 F2 H2 rs2 g2 ros e2 => ?_
      cases ea : pk ρ2 a with
      | none => simp [ea] at e2
      | some x =>
        cases eb : pks ρ2 as with
        | none => simp [ea, eb] at e2
        | some xs =>
          simp only [ea, eb] at e2
          obtain ⟨res, e3, rfl, rfl⟩ := lft_some e2
          exact hop x xs res v vs _ F2 H2 rs2 (pk_ok rs2 (ro.sub g2.mono) ea) (pks_ok rs2 ros eb) e3 fun w F' H' rs' g' r' => q w F' H' rs' (g1.trans (g2.trans g')) (RR.weak (g1.trans g2).live r')
    · cases e1
theorem LA.one {G : List V → Hp → Prop} (h : LA K mg W [f] σ H G) : LE K mg W f σ H fun v H1 => G [v] H1 := LE.imp (LA.cons h) fun v H1 h => LA.nil h
theorem LA.two {G : List V → Hp → Prop} (h : LA K mg W [fa, fb] σ H G) : LE K mg W fa σ H fun v H1 => LE K mg W fb σ H1 fun u H2 => G [v, u] H2 := LE.imp (LA.cons h) fun v H1 h => LE.imp (LA.cons h) fun u H2 h => LA.nil h
def kGet1 (x : D) : List D → Option R
  | [y] => (dGet x y).map fun o => .d (o.getD .non)
  | _ => none
def kGet2 (x : D) : List D → Option R
  | [y, z] => (dGet x y).map fun o => .d (o.getD z)
  | _ => none
theorem pe_get1 {X : Cx} {o e : Expr} {apos cpos : Pos} {fo fe : DE} (hu : X.A.units + 65 < cLine) (ho : PE X o (LE (kj J X) X.mg W fo)) (he : PE X e (LE (kj J X) X.mg W fe)) (m : M1 X o "get" apos e cpos := by exact ⟨rfl, rfl, rfl, rfl⟩) :
    PE X (.Call (.Attribute o "get" apos) [e] [] cpos) (LE (kj J X) X.mg W (mG isDct fo [fe] kGet1)) :=
  PE.imp (pe_dget1 (by omega) ho he m) fun σ H Q h => LE.imp (LE.mthG (P := fun v H1 => ∃ a, v = .ref a ∧ IsD H1 a) (G := fun v vs H2 => ∃ a y, v = .ref a ∧ vs = [y] ∧ ∃ o, DGet H2 a y o ∧ Q (o.getD .non) H2) (fun x v ρ F H1 rs hx hp => isDct_ok rs hx hp) h fun x xs res v vs ρ F H1 rs hx hxs e q => by
    unfold kGet1 at e
    split at e
    · rename_i y
      cases eg : dGet x y with
      | none => rw [eg] at e; cases e
      | some o =>
        rw [eg] at e
        cases e
        obtain ⟨u, rfl, hy⟩ := hxs.one
        obtain ⟨a, r, rfl, g, c⟩ := dGet_ok rs hx hy eg
        refine ⟨a, u, rfl, rfl, r, g, ?_⟩
        rcases c with ⟨c1, c2⟩ | ⟨d', w, c1, c2, c3⟩
        · subst c1 c2
          exact q.dat rs .non
        · subst c1 c2
          exact q.dat rs c3
    · cases e) fun v H1 ⟨⟨a, ev, hd⟩, h2⟩ => ⟨a, ev, hd, LE.imp (LA.one h2) fun y H2 ⟨a', y', e1, e2, h3⟩ => by
      rw [ev] at e1
      cases e1
      cases e2
      exact h3⟩
theorem PKs.twoF {vs : List V} {y z : D} (h : PKs K F H [y, z] vs) : ∃ v u, vs = [v, u] ∧ PK K F H y v ∧ PK K F H z u := h.two
def noOwn : D → Bool
  | .lst _ => false
  | .dK _ => false
  | .dT _ => false
  | _ => true
/-- data that is not one's own -/
theorem PK.rep0 (h : PK K F H x v) (c : noOwn x = true) : Rep K F x v := by
  rcases h with h | ⟨p, _, _, o, _, w⟩
  · exact h
  · cases x with
    | lst _ => cases c
    | dK _ => cases c
    | dT _ => cases c
    | _ => cases o <;> exact w.elim
def kGet2' (x : D) (xs : List D) : Option R := match xs with
  | [_, z] => if noOwn z = true then kGet2 x xs else none
  | _ => none
theorem pe_get2 {X : Cx} {o e f : Expr} {apos cpos : Pos} {fo fe ff : DE} (hu : X.A.units + 65 < cLine) (ho : PE X o (LE (kj J X) X.mg W fo)) (he : PE X e (LE (kj J X) X.mg W fe)) (hf : PE X f (LE (kj J X) X.mg W ff)) (m : M2 X o "get" apos e f cpos := by exact ⟨rfl, rfl, rfl, rfl⟩) :
    PE X (.Call (.Attribute o "get" apos) [e, f] [] cpos) (LE (kj J X) X.mg W (mG isDct fo [fe, ff] kGet2')) :=
  PE.imp (pe_dget2 (by omega) ho he hf m) fun σ H Q h => LE.imp (LE.mthG (P := fun v H1 => ∃ a, v = .ref a ∧ IsD H1 a) (G := fun v vs H2 => ∃ a y z, v = .ref a ∧ vs = [y, z] ∧ ∃ o, DGet H2 a y o ∧ Q (o.getD z) H2) (fun x v ρ F H1 rs hx hp => isDct_ok rs hx hp) h fun x xs res v vs ρ F H1 rs hx hxs e q => by
    unfold kGet2' at e
    split at e
    · rename_i y z
      split at e
      · rename_i hz
        have e : (dGet x y).map (fun o => R.d (o.getD z)) = some res := e
        cases eg : dGet x y with
        | none => rw [eg] at e; cases e
        | some o =>
          rw [eg] at e
          cases e
          obtain ⟨u, t, rfl, hy, ht⟩ := hxs.two
          obtain ⟨a, r, rfl, g, c⟩ := dGet_ok rs hx hy eg
          refine ⟨a, u, t, rfl, rfl, r, g, ?_⟩
          rcases c with ⟨c1, c2⟩ | ⟨d', w, c1, c2, c3⟩
          · subst c1 c2
            exact q.dat rs (ht.rep0 hz)
          · subst c1 c2
            exact q.dat rs c3
      · cases e
    · cases e) fun v H1 ⟨⟨a, ev, hd⟩, h2⟩ => ⟨a, ev, hd, LE.imp (LA.two h2) fun y H2 h3 => LE.imp h3 fun z H3 ⟨a', y', z', e1, e2, h4⟩ => by
      rw [ev] at e1
      cases e1
      cases e2
      exact h4⟩
/-! ### making -/
def xDK : DE := fun ρ => some (.ok (.o (.dK [])), ρ)
def xDT : DE := fun ρ => some (.ok (.o (.dT [])), ρ)
theorem pe_dK {X : Cx} {pos : Pos} : PE X (.Dict [] [] pos) (LE (kj J X) X.mg W xDK) := PE.imp pe_dnewK fun σ H Q h => by
  obtain ⟨ρ, F, r, ρ', rs, e, q⟩ := h
  cases e
  intro p hp
  obtain ⟨a, b, c⟩ := newO (x := .dK []) (o := .dK []) rs hp ⟨rfl, .nil⟩
  exact q _ _ _ a b c
theorem pe_dT {X : Cx} {pos : Pos} : PE X (.Dict [] [] pos) (LE (kj J X) X.mg W xDT) := PE.imp pe_dnewT fun σ H Q h => by
  obtain ⟨ρ, F, r, ρ', rs, e, q⟩ := h
  cases e
  intro p hp
  obtain ⟨a, b, c⟩ := newO (x := .dT []) (o := .dT []) rs hp ⟨rfl, .nil⟩
  exact q _ _ _ a b c
end
end Dn
end

section
set_option Elab.async false
set_option linter.all false
set_option maxRecDepth 100000
set_option maxHeartbeats 4000000
/-! Dn: dicts: stores, displays, pop; dicts of the module. -/
namespace Dn
open PySem PySem.Spec PyProof.Rows L2 L2.DX
section
variable {K : Fg} {mg : MG} {W : WX} {pr : Nat → Bool} {σ : L2.St} {ρ ρ1 ρ' : Env} {F F1 H H1 H0 : Hp} {v u : V} {f fa fb : DE} {x y : D}
/-! ### o[i] = v, o a list or a dict of one's own -/
theorem set_dict {X : Cx} (hu : X.A.units + 1 < cLine) : PSet X (fun o i v H Q => ∃ a H', o = .ref a ∧ DPut H a i v H' ∧ Q H') := by
  intro pins s σ H o i v ov iv u Q I ro ri rv h
  obtain ⟨a, H', rfl, g, q⟩ := h
  cases ro
  exact d_setItem hu I g ri rv fun s' I' => ⟨H', I', q⟩
theorem PSet.or {X : Cx} {t t' : TSet} (h : PSet X t) (h' : PSet X t') : PSet X (fun o i v H Q => t o i v H Q ∨ t' o i v H Q) := by
  intro pins s σ H o i v ov iv u Q I ro ri rv hh
  rcases hh with hh | hh
  · exact h pins s σ H o i v ov iv u Q I ro ri rv hh
  · exact h' pins s σ H o i v ov iv u Q I ro ri rv hh
def put2 (y x k : D) : Option D := match y, k with
  | .lst ds, .int k => (ixN ds.length k).map fun m => .lst (ds.set m x)
  | .dK kvs, k => (keyOf k).bind fun k => if kvs.length < sizeLine then some (.dK (putA kvs k x)) else none
  | .dT kvs, .tup ks => (keysOf ks).bind fun k => if kvs.length < sizeLine then some (.dT (putA kvs k x)) else none
  | _, _ => none
def stIx2 (o : R) (x : D) (k : D) : DS := fun ρ => match o with
  | .s j => (match gt ρ j with
    | some (.o y) => (put2 y x k).map fun z => (.nx, ρ.set j (some (.o z)))
    | _ => none)
  | _ => none
def sSt2 (fv fo fi : DE) : DS := bS fv fun a => bS fo fun o => bS fi fun i => fun ρ => match toD ρ (nrm a) with
  | some (x, ρ1) => (match pk ρ1 (nrm i) with
    | some k => stIx2 o x k ρ1
    | none => none)
  | none => none
theorem LS.st2 {fv fo fi : DE} {D0 : Ends} {σ : L2.St} {H : Hp} (h : LS K mg W pr (sSt2 fv fo fi) D0 σ H) : tAsg (LE K mg W fv) (gSub (LE K mg W fo) (LE K mg W fi) (fun o i v H Q => rSetL o i v H Q ∨ ∃ a H', o = .ref a ∧ DPut H a i v H' ∧ Q H')) D0 σ H := by
  obtain ⟨ρ, F, c, ρ', rs, e, q⟩ := h
  refine LE.bindS rs e q fun a v ρ1 F1 H1 rs1 g1 rr e1 => ?_
  obtain ⟨F1', rs1', g1', ro⟩ := opnd_of rs1 g1 rr
  refine LE.bindS rs1' e1 (q.shift g1' fun _ _ => rfl) fun o w ρ2 F2 H2 rs2 g2 rr2 e2 => ?_
  refine LE.bindS rs2 e2 ((q.shift g1' fun _ _ => rfl).shift g2 fun _ _ => rfl) fun i u ρ3 F3 H3 rs3 g3 rr3 e3 => ?_
  obtain ⟨F3', rs3', g3', ro3⟩ := opnd_of rs3 g3 rr3
  have g123 := g1'.trans (g2.trans g3')
  have ro' := ro.sub (g2.trans g3').mono
  cases z : toD ρ3 (nrm a) with
  | none => rw [z] at e3; cases e3
  | some y =>
    obtain ⟨x, ρ4⟩ := y
    rw [z] at e3
    dsimp only at e3
    obtain ⟨F4, rs4, g4, rx⟩ := toD_ok rs3' ro' z
    cases zi : pk ρ4 (nrm i) with
    | none => rw [zi] at e3; cases e3
    | some k =>
      rw [zi] at e3
      dsimp only at e3
      have pki := pk_ok rs4 (ro3.sub g4.mono) zi
      unfold stIx2 at e3
      cases o with
      | s j =>
        dsimp only at e3
        have hw : σ[j]? = some (some w) := rr2.1
        cases zg : gt ρ4 j with
        | none => rw [zg] at e3; cases e3
        | some s =>
          rw [zg] at e3
          cases s with
          | d _ => cases e3
          | x _ => cases e3
          | o y =>
            dsimp only at e3
            obtain ⟨p, q1, q2, ob, q3, q4⟩ := rs4.own j _ zg
            rw [hw] at q1
            cases q1
            cases ep : put2 y x k with
            | none => rw [ep] at e3; cases e3
            | some yz =>
              rw [ep] at e3
              cases e3
              have fin : ∀ {o' : HO}, OwnO K F4 o' yz → D0.nx σ (upd H3 p o') := fun {o'} w' => by
                obtain ⟨a1, a2⟩ := own_set (y := yz) (o := o') rs4 zg hw w'
                exact q σ F4 _ a1 (g123.trans (g4.trans a2)) fun _ _ => rfl
              unfold put2 at ep
              split at ep
              · rename_i ds k
                cases pki.int
                cases ob with
                | lst us =>
                  cases zn : ixN ds.length k with
                  | none => rw [zn] at ep; cases ep
                  | some m =>
                    rw [zn] at ep
                    cases ep
                    have q4 : Reps K F4 ds us := q4
                    exact .inl ⟨p, us, k, m, rfl, rfl, q3, by rw [← q4.length]; exact zn, fin (o' := .lst (us.set m v)) (Reps.set rx m q4)⟩
                | _ => exact q4.elim
              · rename_i kvs
                cases ek : keyOf k with
                | none => rw [ek] at ep; cases ep
                | some kk =>
                  rw [ek] at ep
                  dsimp only [Option.bind] at ep
                  split at ep
                  · rename_i hl
                    cases ep
                    cases ob with
                    | dK us =>
                      have q4 : EA K F4 kvs us := q4
                      have := pki.key ek
                      subst this
                      exact .inr ⟨p, _, rfl, DPut.k q3 (by rw [q4.length]; exact hl), fin (o' := .dK (putK us kk v)) (EA.put rx q4)⟩
                    | _ => exact q4.elim
                  · cases ep
              · rename_i kvs ks
                cases ek : keysOf ks with
                | none => rw [ek] at ep; cases ep
                | some kk =>
                  rw [ek] at ep
                  dsimp only [Option.bind] at ep
                  split at ep
                  · rename_i hl
                    cases ep
                    cases ob with
                    | dT us =>
                      have q4 : EA K F4 kvs us := q4
                      obtain ⟨b, xs, rfl, hb, rb⟩ := pki.tupF
                      have := rb.keys ek
                      subst this
                      exact .inr ⟨p, _, rfl, DPut.t q3 (rs4.sub _ _ hb) (by rw [q4.length]; exact hl), fin (o' := .dT (putK us kk v)) (EA.put rx q4)⟩
                    | _ => exact q4.elim
                  · cases ep
              · cases ep
      | _ => cases e3
theorem ps_st2 {X : Cx} {e o i : Expr} {fv fo fi : DE} {pos p' : Pos} (hu : X.A.units + 65 < cLine) (he : PE X e (LE (kj J X) X.mg W fv)) (ho : PE X o (LE (kj J X) X.mg W fo)) (hi : PE X i (LE (kj J X) X.mg W fi))
    (ha : ∀ v, assign (.Subscript o i p') X.env v = (do let ov ← holding [v] (eval o X.env); let iv ← holding [v, ov] (eval i X.env); standAt p'; holding [v, ov, iv] (setItem ov iv v); release [v, ov, iv] []) := by intro _; rfl)
    (hs : swapsWithSole [.Subscript o i p'] e pos.line X.env = pure false := by rfl) (hw : swappedStores [.Subscript o i p'] e X.env = pure none := by rfl) (h1 : (assignEach [.Subscript o i p'] X.env).map (·.2) = [assign (.Subscript o i p') X.env] := by rfl) :
    PS X (.Assign [.Subscript o i p'] e pos) (LS (kj J X) X.mg W pr (sSt2 fv fo fi)) := PS.imp (ps_asg he (pg_sub ho hi (PSet.or set_list (set_dict (by omega))) ha) hs hw h1) fun _ _ _ h => LS.st2 h
/-! ### displays of constants -/
def cV : D → V
  | .int i => .int i
  | .str z => .str z
  | .bl b => .bl b
  | _ => .non
inductive DspE (X : Cx) : List (Option Expr) → List Expr → List (Str × D) → Prop
  | nil : DspE X [] [] []
  | int {k : Str} {i : Int} {a b : Nat} {p q : Pos} {ks : List (Option Expr)} {vs : List Expr} {l : List (Str × D)} (r : DspE X ks vs l) : DspE X (some (.Constant (.str k) a p) :: ks) (.Constant (.int i) b q :: vs) ((k, .int i) :: l)
  | str {k z : Str} {a b : Nat} {p q : Pos} {ks : List (Option Expr)} {vs : List Expr} {l : List (Str × D)} (r : DspE X ks vs l) : DspE X (some (.Constant (.str k) a p) :: ks) (.Constant (.str z) b q :: vs) ((k, .str z) :: l)
theorem DspE.pps {X : Cx} {pos : Pos} : ∀ {ks : List (Option Expr)} {vs : List Expr} {l : List (Str × D)}, DspE X ks vs l → ks.all (·.isSome) = true ∧ ks.length = vs.length ∧ ks.length = l.length ∧ (∀ F, Reps (kj J X) F (l.map (·.2)) (l.map fun p => cV p.2)) ∧ ∃ trs, PPs X pos ks vs trs ∧ ∀ σ H (Q : List (V × V) → Hp → Prop), Q (l.map fun p => (V.str p.1, cV p.2)) H → tPairs trs σ H Q
  | _, _, _, .nil => ⟨rfl, rfl, rfl, fun F => .nil, [], pps_nil, fun σ H Q h => h⟩
  | _, _, _, .int r => by
    obtain ⟨a, b, c, d, trs, e, g⟩ := DspE.pps (pos := pos) r
    exact ⟨by simpa using a, by simpa using b, by simpa using c, fun F => .cons (.int _) (d F), _, pps_cons pe_str pe_int e, fun σ H Q h => g σ H _ h⟩
  | _, _, _, .str r => by
    obtain ⟨a, b, c, d, trs, e, g⟩ := DspE.pps (pos := pos) r
    exact ⟨by simpa using a, by simpa using b, by simpa using c, fun F => .cons (.str _) (d F), _, pps_cons pe_str pe_str e, fun σ H Q h => g σ H _ h⟩
theorem mergeK_new : ∀ (more acc : List (Key × V)), (more.map (·.1)).Nodup → (∀ p ∈ more, valV acc p.1 = none) → mergeK acc more = acc ++ more
  | [], acc, _, _ => by simp [mergeK]
  | p :: more, acc, hn, h => by
    have hn' := List.nodup_cons.mp (show (p.1 :: more.map (·.1)).Nodup from hn)
    have h0 := h p List.mem_cons_self
    have : mergeK acc (p :: more) = mergeK (putK acc p.1 p.2) more := rfl
    rw [this, putK_new p.2 h0, mergeK_new more _ hn'.2 fun q hq => ?_]
    · simp
    · rw [valV_snoc _ _ _ _ h0]
      rw [if_neg (fun z => hn'.1 (by rw [← z]; exact List.mem_map_of_mem hq))]
      exact h q (List.mem_cons_of_mem _ hq)
def xDisp (l : List (Str × D)) : DE := fun ρ => some (.ok (.o (.dK (l.map fun p => (.inr p.1, p.2)))), ρ)
theorem pe_dispC {X : Cx} {pos : Pos} {keys : List (Option Expr)} {values : List Expr} {l : List (Str × D)} (h : DspE X keys values l) (hl : l.length ≤ 15) (h0 : keys ≠ []) (hn : (l.map (·.1)).Nodup) : PE X (.Dict keys values pos) (LE (kj J X) X.mg W (xDisp l)) := by
  obtain ⟨a, b, c, d, trs, e, g⟩ := h.pps (J := J) (pos := pos)
  refine PE.imp (pe_disp e a b h0 (by omega)) fun σ H Q hh => ?_
  obtain ⟨ρ, F, r, ρ', rs, e, q⟩ := hh
  cases e
  intro p hp
  refine g σ _ _ ⟨upd_same, l.map fun p => (Sum.inr p.1, cV p.2), by simp [kV], by simpa using hl, ?_⟩
  have hm : mergeK [] (l.map fun p => ((Sum.inr p.1 : Key), cV p.2)) = l.map fun p => (Sum.inr p.1, cV p.2) := by
    rw [mergeK_new _ [] ?_ fun _ _ => rfl]
    · rfl
    · rw [List.map_map]
      have : (l.map ((fun q : Key × V => q.1) ∘ fun p : Str × D => ((Sum.inr p.1 : Key), cV p.2))) = (l.map (·.1)).map Sum.inr := by rw [List.map_map]; rfl
      rw [this]
      refine List.Pairwise.map _ (fun a b hab => ?_) hn
      intro z
      exact hab (Sum.inr.inj z)
  rw [hm]
  have eH : upd (upd H p (HO.dK [])) p (.dK (l.map fun p => ((Sum.inr p.1 : Key), cV p.2))) = upd H p (.dK (l.map fun p => ((Sum.inr p.1 : Key), cV p.2))) := by
    funext b
    by_cases hb : b = p
    · rw [hb, upd_same, upd_same]
    · rw [upd_ne hb, upd_ne hb, upd_ne hb]
  rw [eH]
  obtain ⟨a1, b1, c1⟩ := newO (x := .dK (l.map fun p => ((Sum.inr p.1 : Key), p.2))) (o := .dK (l.map fun p => ((Sum.inr p.1 : Key), cV p.2))) rs hp ⟨by simp, by
    rw [List.map_map, List.map_map]
    exact d F⟩
  exact q _ _ _ a1 b1 c1
/-! ### d.pop -/
def isOwn (p : D → Bool) : Option S → Bool
  | some (.o x) => p x
  | _ => false
/-- a method that changes what is one's own -/
def mOG (p : D → Bool) (f : DE) (fs : List DE) (k : D → List D → Option (D × D)) : DE := bE f fun a => fun ρ => match a with
  | .s i => if isOwn p (gt ρ i) = true then bE (eA fs) (fun as => fun ρ => match toDs ρ as with
    | some (xs, ρ1) => (match gt ρ1 i with
      | some (.o x) => (match k x xs with
        | some (y, r) => some (.ok (.d r), ρ1.set i (some (.o y)))
        | none => none)
      | _ => none)
    | none => none) ρ else none
  | _ => none
theorem LE.ownG {p : D → Bool} {P : V → Hp → Prop} {fs : List DE} {k : D → List D → Option (D × D)} {G : V → List V → Hp → Prop} {Q : VK} (hp : ∀ x o a F H1, OwnO K F o x → H1 a = some o → p x = true → P (.ref a) H1) (h : LE K mg W (mOG p f fs k) σ H Q)
    (hop : ∀ x xs y d a o vs F H1, H1 a = some o → OwnO K F o x → Reps K F xs vs → Sub F H1 → k x xs = some (y, d) → (∀ o' w, OwnO K F o' y → Rep K F d w → Q w (upd H1 a o')) → G (.ref a) vs H1) : LE K mg W f σ H fun v H1 => P v H1 ∧ LA K mg W fs σ H1 fun vs H2 => G v vs H2 := by
  obtain ⟨ρ, F, rr, ρ', rs, e, q⟩ := h
  refine LE.bind rs e (fun x hx => by subst hx; exact q) fun a v ρ1 F1 H1 rs1 g1 ro e1 => ?_
  cases a with
  | s i =>
    dsimp only at e1
    split at e1
    · rename_i hown
      obtain ⟨hv, _⟩ := ro
      refine ⟨?_, ?_⟩
      · cases eg : gt ρ1 i with
        | none => rw [eg] at hown; cases hown
        | some s =>
          rw [eg] at hown
          cases s with
          | d z => cases hown
          | x z => cases hown
          | o z =>
            obtain ⟨a, e1, fp, u, e3, e4⟩ := rs1.own i _ eg
            rw [hv] at e1
            cases e1
            exact hp z u a F1 H1 e4 e3 hown
      · refine LA.bind rs1 e1 (fun x hx => by subst hx; exact EX.trans g1 q) fun as vs ρ2 F2 H2 rs2 g2 ros e2 => ?_
        cases ea : toDs ρ2 as with
        | none => rw [ea] at e2; cases e2
        | some w =>
          obtain ⟨xs, ρ3⟩ := w
          rw [ea] at e2
          dsimp only at e2
          obtain ⟨F3, rs3, g3, rx⟩ := toDs_ok rs2 ros ea
          cases eg : gt ρ3 i with
          | none => rw [eg] at e2; cases e2
          | some s =>
            rw [eg] at e2
            cases s with
            | d z => cases e2
            | x z => cases e2
            | o z =>
              dsimp only at e2
              cases ek : k z xs with
              | none => rw [ek] at e2; cases e2
              | some w =>
                obtain ⟨y, d⟩ := w
                rw [ek] at e2
                cases e2
                obtain ⟨a, e1, fp, u, e3, e4⟩ := rs3.own i _ eg
                rw [hv] at e1
                cases e1
                refine hop z xs y d a u vs F3 H2 e3 e4 rx rs3.sub ek fun o' w rw' rd => ?_
                obtain ⟨a1, a2⟩ := own_set (y := y) (o := o') rs3 eg hv rw'
                exact q w F3 _ a1 (g1.trans (g2.trans (g3.trans a2))) rd
    · cases e1
  | _ => cases e1
theorem upd_eq {H : Hp} {a : Addr} {o : HO} (h : H a = some o) : upd H a o = H := by
  funext b
  by_cases hb : b = a
  · rw [hb, upd_same, h]
  · rw [upd_ne hb]
def kPop1 (x : D) : List D → Option (D × D)
  | [y] => (match x with
    | .dK kvs => (keyOf y).bind fun k => (valA kvs k).map fun d => (.dK (dropA kvs k), d)
    | _ => none)
  | _ => none
def isDK : D → Bool
  | .dK _ => true
  | _ => false
def isDT : D → Bool
  | .dT _ => true
  | _ => false
theorem pe_pop1 {X : Cx} {o e : Expr} {apos cpos : Pos} {fo fe : DE} (ho : PE X o (LE (kj J X) X.mg W fo)) (he : PE X e (LE (kj J X) X.mg W fe)) (m : M1 X o "pop" apos e cpos := by exact ⟨rfl, rfl, rfl, rfl⟩) :
    PE X (.Call (.Attribute o "pop" apos) [e] [] cpos) (LE (kj J X) X.mg W (mOG isDK fo [fe] kPop1)) :=
  PE.imp (pe_dpop1 ho he m) fun σ H Q h => LE.imp (LE.ownG (P := fun v H1 => ∃ a, v = .ref a ∧ IsD H1 a) (G := fun v vs H2 => ∃ a y, v = .ref a ∧ vs = [y] ∧ ∃ kvs k v, H2 a = some (.dK kvs) ∧ y = kV k ∧ valV kvs k = some v ∧ Q v (upd H2 a (.dK (dropK kvs k)))) (fun x o a F H1 ow ha hp => by
      cases x with
      | dK kvs => cases o with
        | dK vs => exact ⟨a, rfl, .inl ⟨vs, .inl ha⟩⟩
        | _ => exact ow.elim
      | _ => cases hp) h fun x xs y d a o vs F H1 ha ow rx hs e q => by
    unfold kPop1 at e
    split at e
    · rename_i y
      split at e
      · rename_i kvs
        obtain ⟨u, rfl, ry⟩ := rx.one
        cases ek : keyOf y with
        | none => rw [ek] at e; cases e
        | some k =>
          rw [ek] at e
          dsimp only [Option.bind] at e
          cases o with
          | dK us =>
            have ow : EA _ F kvs us := ow
            rcases EA.val (k := k) ow with ⟨e1, e2⟩ | ⟨d', w, e1, e2, e3⟩
            · rw [e1] at e; cases e
            · rw [e1] at e
              cases e
              exact ⟨a, u, rfl, rfl, us, k, w, ha, ry.key ek, e2, q _ w (EA.drop ow) e3⟩
          | _ => exact ow.elim
      · cases e
    · cases e) fun v H1 ⟨⟨a, ev, hd⟩, h2⟩ => ⟨a, ev, hd, LE.imp (LA.one h2) fun y H2 ⟨a', y', e1, e2, h3⟩ => by
      rw [ev] at e1
      cases e1
      cases e2
      exact h3⟩
def kPop2 (x : D) : List D → Option (D × D)
  | [y, z] => (match x, y with
    | .dK kvs, y => (keyOf y).map fun k => (match valA kvs k with
      | some d => (.dK (dropA kvs k), d)
      | none => (.dK kvs, z))
    | .dT kvs, .tup ks => (keysOf ks).map fun k => (match valA kvs k with
      | some d => (.dT (dropA kvs k), d)
      | none => (.dT kvs, z))
    | _, _ => none)
  | _ => none
theorem pe_dpop2G {X : Cx} {o e f : Expr} {apos cpos : Pos} {td ty tx : TE} (hu : X.A.units + 1 < cLine) (ho : PE X o td) (he : PE X e ty) (hf : PE X f tx) (m : M2 X o "pop" apos e f cpos) : PE X (.Call (.Attribute o "pop" apos) [e, f] [] cpos)
    (fun σ H Q => td σ H fun x H1 => ∃ a, x = .ref a ∧ IsD H1 a ∧ ty σ H1 fun y H2 => tx σ H2 fun z H3 => (∃ kvs k, H3 a = some (.dK kvs) ∧ y = kV k ∧ (∀ v, valV kvs k = some v → Q v (upd H3 a (.dK (dropK kvs k)))) ∧ (valV kvs k = none → Q z H3)) ∨ rPopT (.ref a) [y, z] H3 Q) := by
  refine ⟨fun pins s σ H Q I h => ?_⟩
  refine wpAny_Call_method m.base m.few m.line PySem.F.plainAttrs_dict PySem.F.slot_dict_pop PySem.F.type_dict_pop (thn (ho.run pins s σ H _ I h) fun u s1 ⟨x, H1, I1, rx, a, ex, d, q1⟩ => ?_)
  subst ex
  obtain rfl : u = Value.ref a := rx
  obtain ⟨t1, t2, _⟩ := isD_at I1 d
  refine ⟨t1, t2, ?_⟩
  rw [m.trees]
  refine Calls.callWith_builtin rfl (Calls.evalArgs_plain (Calls.spliced_cons (thn (he.run pins s1 σ H1 _ I1 q1) fun iv s2 ⟨y, H2, I2, ry, q2⟩ =>
    Calls.spliced_cons (thn (hf.run pins s2 σ H2 _ I2 q2) fun fv s3 ⟨z, H3, I3, rz, q3⟩ => Calls.spliced_nil ?_))))
  rcases q3 with ⟨kvs, k, ea, ey, q3, q4⟩ | q3
  · subst ey
    cases l : valV kvs k with
    | some v => exact d_pop I3 ea ry l (.inr ⟨fv, rfl⟩) fun w' s4 I4 rw' => ⟨v, _, I4, rw', q3 v l⟩
    | none => exact d_popD I3 ea ry l fun s4 I4 => ⟨z, H3, I4, rz, q4 l⟩
  · exact mt_popT hu pins s3 σ H3 (.ref a) [y, z] (.ref a) [iv, fv] Q I3 rfl (.cons ry (.cons rz .nil)) q3
theorem pe_pop2 {X : Cx} {o e f : Expr} {apos cpos : Pos} {fo fe ff : DE} (hu : X.A.units + 65 < cLine) (ho : PE X o (LE (kj J X) X.mg W fo)) (he : PE X e (LE (kj J X) X.mg W fe)) (hf : PE X f (LE (kj J X) X.mg W ff)) (m : M2 X o "pop" apos e f cpos := by exact ⟨rfl, rfl, rfl, rfl⟩) :
    PE X (.Call (.Attribute o "pop" apos) [e, f] [] cpos) (LE (kj J X) X.mg W (mOG isDct fo [fe, ff] kPop2)) :=
  PE.imp (pe_dpop2G (by omega) ho he hf m) fun σ H Q h => LE.imp (LE.ownG (P := fun v H1 => ∃ a, v = .ref a ∧ IsD H1 a) (G := fun v vs H2 => ∃ a y z, v = .ref a ∧ vs = [y, z] ∧ ((∃ kvs k, H2 a = some (.dK kvs) ∧ y = kV k ∧ (∀ v, valV kvs k = some v → Q v (upd H2 a (.dK (dropK kvs k)))) ∧ (valV kvs k = none → Q z H2)) ∨ rPopT (.ref a) [y, z] H2 Q)) (fun x o a F H1 ow ha hp => by
      cases x with
      | dK kvs => cases o with
        | dK vs => exact ⟨a, rfl, .inl ⟨vs, .inl ha⟩⟩
        | _ => exact ow.elim
      | dT kvs => cases o with
        | dT vs => exact ⟨a, rfl, .inr ⟨vs, .inl ha⟩⟩
        | _ => exact ow.elim
      | _ => cases hp) h fun x xs y d a o vs F H1 ha ow rx hs e q => by
    unfold kPop2 at e
    split at e
    · rename_i y z
      obtain ⟨u, t, rfl, ry, rz⟩ := rx.two
      refine ⟨a, u, t, rfl, rfl, ?_⟩
      split at e
      · rename_i kvs
        cases ek : keyOf y with
        | none => rw [ek] at e; cases e
        | some k =>
          rw [ek] at e
          dsimp only [Option.map] at e
          cases o with
          | dK us =>
            have ow : EA _ F kvs us := ow
            refine .inl ⟨us, k, ha, ry.key ek, fun v hv => ?_, fun hn => ?_⟩
            · rcases EA.val (k := k) ow with ⟨e1, e2⟩ | ⟨d', w, e1, e2, e3⟩
              · rw [e2] at hv; cases hv
              · rw [e2] at hv
                cases hv
                rw [e1] at e
                cases e
                exact q _ _ (EA.drop ow) e3
            · rcases EA.val (k := k) ow with ⟨e1, e2⟩ | ⟨d', w, e1, e2, e3⟩
              · rw [e1] at e
                cases e
                have := q (.dK us) t ow rz
                rw [upd_eq ha] at this
                exact this
              · rw [e2] at hn; cases hn
          | _ => exact ow.elim
      · rename_i kvs ks
        cases ek : keysOf ks with
        | none => rw [ek] at e; cases e
        | some k =>
          rw [ek] at e
          dsimp only [Option.map] at e
          cases o with
          | dT us =>
            have ow : EA _ F kvs us := ow
            cases ry with
            | tup hb rb =>
              rename_i b bx
              have := rb.keys ek
              subst this
              refine .inr ⟨a, us, k, b, t, rfl, rfl, ha, hs _ _ hb, fun v hv => ?_, fun hn => ?_⟩
              · rcases EA.val (k := k) ow with ⟨e1, e2⟩ | ⟨d', w, e1, e2, e3⟩
                · rw [e2] at hv; cases hv
                · rw [e2] at hv
                  cases hv
                  rw [e1] at e
                  cases e
                  exact q _ _ (EA.drop ow) e3
              · rcases EA.val (k := k) ow with ⟨e1, e2⟩ | ⟨d', w, e1, e2, e3⟩
                · rw [e1] at e
                  cases e
                  have := q (.dT us) t ow rz
                  rw [upd_eq ha] at this
                  exact this
                · rw [e2] at hn; cases hn
          | _ => exact ow.elim
      · cases e
    · cases e) fun v H1 ⟨⟨a, ev, hd⟩, h2⟩ => ⟨a, ev, hd, LE.imp (LA.two h2) fun y H2 h3 => LE.imp h3 fun z H3 ⟨a', y', z', e1, e2, h4⟩ => by
      rw [ev] at e1
      cases e1
      cases e2
      exact h4⟩
/-! ### dicts of the module -/
structure KdI (K : PySem.W.Frag) (w : World) (mg : MG) (nm : Str) (kvs : List (Str × D)) : Prop where
  ex : ∃ a es n, mg nm = some (.ref a) ∧ KDict K w a es n ∧ ∀ z, ∃ r, PySem.W.nsIn K a z = some r ∧ ((kvs.lookup z = none ∧ r = none) ∨ ∃ d u, kvs.lookup z = some d ∧ r = some u ∧ RelV (cV d) u)
  flat : ∀ p ∈ kvs, ∀ (K : Fg) F, Rep K F p.2 (cV p.2)
def entB (e : DictEntry) (p : Str × D) : Bool := match e.key with
  | .str x _ => decide (x = p.1) && He.relB (cV p.2) e.val
  | _ => false
def entsB : List DictEntry → List (Str × D) → Bool
  | [], [] => true
  | e :: es, p :: ps => entB e p && entsB es ps
  | _, _ => false
def kdB (K : PySem.W.Frag) (a : Addr) (kvs : List (Str × D)) : Bool := match K.lookup a with
  | some ⟨_, _, .dict es _, _⟩ => entsB es.toList kvs
  | _ => false
theorem entsB_ok {z : Str} : ∀ {es : List DictEntry} {kvs : List (Str × D)}, entsB es kvs = true → (∃ r, (match es.find? (·.key.isStr z) with
    | some e => some (some e.val)
    | none => if es.any (·.refKey) then none else some none) = some r ∧ ((kvs.lookup z = none ∧ r = none) ∨ ∃ d u, kvs.lookup z = some d ∧ r = some u ∧ RelV (cV d) u))
  | [], [], _ => ⟨none, rfl, .inl ⟨rfl, rfl⟩⟩
  | [], _ :: _, h => by cases h
  | _ :: _, [], h => by cases h
  | e :: es, p :: ps, h => by
    have h : (entB e p && entsB es ps) = true := h
    obtain ⟨h1, h2⟩ := Bool.and_eq_true_iff.mp h
    obtain ⟨r, hr, c⟩ := entsB_ok (z := z) h2
    unfold entB at h1
    cases ek : e.key with
    | str x t =>
      rw [ek] at h1
      obtain ⟨h3, h4⟩ := Bool.and_eq_true_iff.mp h1
      have h3 : x = p.1 := of_decide_eq_true h3
      subst h3
      have nr : e.refKey = false := by
        unfold DictEntry.refKey
        rw [ek]
      by_cases hz : z = p.1
      · have hs : e.key.isStr z = true := by rw [ek, hz]; simp [Value.isStr]
        refine ⟨some e.val, ?_, .inr ⟨p.2, e.val, ?_, rfl, He.relB_ok h4⟩⟩
        · rw [List.find?_cons_of_pos (p := fun x : DictEntry => x.key.isStr z) hs]
        · obtain ⟨p1, p2⟩ := p
          simp only at hz
          subst hz
          simp [List.lookup]
      · have hs : ¬ e.key.isStr z = true := by
          rw [ek]
          simp [Value.isStr]
          exact fun y => hz y.symm
        have hb : (z == p.1) = false := by simpa using hz
        refine ⟨r, ?_, ?_⟩
        · rw [List.find?_cons_of_neg (p := fun x : DictEntry => x.key.isStr z) hs, List.any_cons, nr, Bool.false_or]
          exact hr
        · obtain ⟨p1, p2⟩ := p
          have hl : List.lookup z ((p1, p2) :: ps) = ps.lookup z := by simp [List.lookup, hb]
          rw [hl]
          exact c
    | _ => rw [ek] at h1; cases h1
theorem kdB_ok {K : PySem.W.Frag} {w : World} {mg : MG} {nm : Str} {kvs : List (Str × D)} {a : Addr} (g : mg nm = some (.ref a)) (hd : ∃ es n, KDict K w a es n) (h : kdB K a kvs = true) (hf : kvs.all (fun p => flatD p.2) = true) : KdI K w mg nm kvs := by
  obtain ⟨es, n, D⟩ := hd
  refine ⟨⟨a, es, n, g, D, fun z => ?_⟩, fun p hp K F => ?_⟩
  · unfold kdB at h
    rw [D.at_] at h
    unfold PySem.W.nsIn
    rw [D.at_]
    exact entsB_ok h
  · have := List.all_eq_true.mp hf p hp
    obtain ⟨z, d⟩ := p
    cases d with
    | non => exact .non
    | bl b => exact .bl b
    | int i => exact .int i
    | str x => exact .str x
    | _ => cases this
theorem look_mem {z : Str} {d : D} : ∀ {kvs : List (Str × D)}, kvs.lookup z = some d → ∃ p ∈ kvs, p.2 = d
  | [], h => by cases h
  | (x, y) :: r, h => by
    by_cases hz : z = x
    · subst hz
      simp [List.lookup] at h
      exact ⟨_, List.mem_cons_self, h⟩
    · have hb : (z == x) = false := by simpa using hz
      simp [List.lookup, hb] at h
      obtain ⟨p, hp, e⟩ := look_mem h
      exact ⟨p, List.mem_cons_of_mem _ hp, e⟩
def kKGet (kvs : List (Str × D)) : D → D → Option R
  | .str z, y => if noOwn y = true then some (.d ((kvs.lookup z).getD y)) else none
  | _, _ => none
def kKIx (kvs : List (Str × D)) : D → Option R
  | .str z => (kvs.lookup z).map .d
  | _ => none
def kKIn (b : Bool) (kvs : List (Str × D)) : D → Option R
  | .str z => some (.d (.bl (if b then (kvs.lookup z).isSome else !(kvs.lookup z).isSome)))
  | _ => none
theorem pe_kget {X : Cx} {nm : Str} {e f : Expr} {p apos cpos : Pos} {fe ff : DE} {kvs : List (Str × D)} (T : KdI X.K X.w X.mg nm kvs) (hg : Gl X nm) (he : PE X e (LE (kj J X) X.mg W fe)) (hf : PE X f (LE (kj J X) X.mg W ff)) (hd : (nm == ("__debug__" : Str)) = false := by decide) (m : M2 X (.Name nm p) "get" apos e f cpos := by exact ⟨rfl, rfl, rfl, rfl⟩) :
    PE X (.Call (.Attribute (.Name nm p) "get" apos) [e, f] [] cpos) (LE (kj J X) X.mg W (o2 fe ff (kKGet kvs))) := by
  obtain ⟨a, es, n, gm, Dd, look⟩ := T.ex
  have key : PE X (.Call (.Attribute (.Name nm p) "get" apos) [e, f] [] cpos) (fun σ H Q => LE (kj J X) X.mg W fe σ H fun y H2 => LE (kj J X) X.mg W ff σ H2 fun z H3 => ∃ s d, y = .str s ∧ ((kvs.lookup s = none ∧ d = z) ∨ ∃ d', kvs.lookup s = some d' ∧ d = cV d') ∧ Q d H3) := by
    refine ⟨fun pins s σ H Q I h => ?_⟩
    refine wpAny_Call_method m.base m.few m.line PySem.F.plainAttrs_dict PySem.F.slot_dict_get PySem.F.type_dict_get (ld_glob I hg gm ?_ hd)
    have hm0 := PySem.W.mapOf_K (prog := X.prog) (w := X.w) I.kIn Dd.at_ Dd.lit
    refine ⟨hm0.typeIs, fun b q => ?_, ?_⟩
    · cases q
      exact ⟨_, I.kIn _ _ Dd.at_, rfl⟩
    rw [m.trees]
    refine Calls.callWith_builtin rfl (Calls.evalArgs_plain (Calls.spliced_cons (thn (he.run pins s σ H _ I h) fun iv s2 ⟨y, H2, I2, ry, q2⟩ =>
      Calls.spliced_cons (thn (hf.run pins s2 σ H2 _ I2 q2) fun fv s3 ⟨z, H3, I3, rz, st, d, ey, c, q3⟩ => Calls.spliced_nil ?_))))
    subst ey
    obtain ⟨t, rfl⟩ := (show ∃ t, iv = Value.str st t from ry)
    have hm := PySem.W.mapOf_K (prog := X.prog) (w := X.w) I3.kIn Dd.at_ Dd.lit
    obtain ⟨r, er, cc⟩ := look st
    refine call_meetsIn PySem.F.slot_dict_get hm.typeIs PySem.F.entry_dict_get (PySem.F.args_dict_get_3 _ _ _) (meets_dict_get_default (strKind X.prog X.w) a (strKind_is X.prog X.w st t) Dd.low fv) ⟨_, hm, ?_⟩
    rw [PySem.W.find_K Dd.at_ er]
    refine ⟨d, H3, I3.tok _, ?_, q3⟩
    rcases cc with ⟨c1, c2⟩ | ⟨d', u, c1, c2, c3⟩
    · subst c2
      rcases c with ⟨_, e2⟩ | ⟨d2, e2, _⟩
      · subst e2
        exact rz
      · rw [c1] at e2; cases e2
    · subst c2
      rcases c with ⟨e2, _⟩ | ⟨d2, e2, e3⟩
      · rw [c1] at e2; cases e2
      · rw [c1] at e2
        cases e2
        subst e3
        exact c3
  refine PE.imp key fun σ H Q h => LE.two h fun x y res v u ρ F H rs hx hy e q => ?_
  unfold kKGet at e
  split at e
  · rename_i z
    split at e
    · rename_i hn
      cases e
      cases hx.str
      cases el : kvs.lookup z with
      | none =>
        rw [el] at q
        exact ⟨z, u, rfl, .inl ⟨el, rfl⟩, q.dat rs (hy.rep0 hn)⟩
      | some d =>
        rw [el] at q
        obtain ⟨p, hp, ep⟩ := look_mem el
        have hr := T.flat p hp (kj J X) F
        rw [ep] at hr
        exact ⟨z, cV d, rfl, .inr ⟨d, el, rfl⟩, q.dat rs hr⟩
    · cases e
  · cases e
theorem pe_kix {X : Cx} {nm : Str} {e : Expr} {p pos : Pos} {fe : DE} {kvs : List (Str × D)} (T : KdI X.K X.w X.mg nm kvs) (hg : Gl X nm) (he : PE X e (LE (kj J X) X.mg W fe)) (hd : (nm == ("__debug__" : Str)) = false := by decide) (hs : PlainIx e := by intro _ _; rfl) :
    PE X (.Subscript (.Name nm p) e pos) (LE (kj J X) X.mg W (o1 fe (kKIx kvs))) := by
  obtain ⟨a, es, n, gm, Dd, look⟩ := T.ex
  refine PE.imp (pe_ix ix_kdict (pe_glob (v := .ref a) hg gm rfl hd) he hs) fun σ H Q h => LE.one h fun x res v ρ F H rs hx e q => ?_
  unfold kKIx at e
  split at e
  · rename_i z
    cases hx.str
    cases el : kvs.lookup z with
    | none => rw [el] at e; cases e
    | some d =>
      rw [el] at e
      cases e
      obtain ⟨r, er, cc⟩ := look z
      rcases cc with ⟨c1, _⟩ | ⟨d', u, c1, c2, c3⟩
      · rw [el] at c1; cases c1
      · rw [el] at c1
        cases c1
        subst c2
        obtain ⟨p, hp, ep⟩ := look_mem el
        have hr := T.flat p hp (kj J X) F
        rw [ep] at hr
        exact ⟨a, z, cV d, rfl, rfl, ⟨es, n, u, Dd.at_, Dd.lit, er, c3⟩, q.dat rs hr⟩
  · cases e
theorem kIn_ok {X : Cx} {nm : Str} {kvs : List (Str × D)} (T : KdI X.K X.w X.mg nm kvs) : ∃ a, X.mg nm = some (.ref a) ∧ OpR X (compareOp .In) (fun x y H Q => ∃ z, x = .str z ∧ y = .ref a ∧ Q (.bl (kvs.lookup z).isSome) H) ∧ OpR X (compareOp .NotIn) (fun x y H Q => ∃ z, x = .str z ∧ y = .ref a ∧ Q (.bl (!(kvs.lookup z).isSome)) H) := by
  obtain ⟨a, es, n, gm, Dd, look⟩ := T.ex
  have hl : ∀ z, ∃ r, PySem.W.nsIn X.K a z = some r ∧ r.isSome = (kvs.lookup z).isSome := fun z => by
    obtain ⟨r, er, cc⟩ := look z
    refine ⟨r, er, ?_⟩
    rcases cc with ⟨c1, c2⟩ | ⟨d', u, c1, c2, c3⟩
    · rw [c1, c2]; rfl
    · rw [c1, c2]; rfl
  refine ⟨a, gm, ?_, ?_⟩
  · intro pins s σ H x y v u Q I rx ry h
    obtain ⟨z, rfl, rfl, q⟩ := h
    obtain ⟨r, er, e2⟩ := hl z
    exact op_in_kd Dd pins s σ H _ _ v u Q I rx ry ⟨z, r, rfl, rfl, er, by rw [e2]; exact q⟩
  · intro pins s σ H x y v u Q I rx ry h
    obtain ⟨z, rfl, rfl, q⟩ := h
    obtain ⟨r, er, e2⟩ := hl z
    exact op_notIn_kd Dd pins s σ H _ _ v u Q I rx ry ⟨z, r, rfl, rfl, er, by rw [e2]; exact q⟩
theorem pe_kin {X : Cx} {nm : Str} {e : Expr} {p pos : Pos} {fe : DE} {kvs : List (Str × D)} (T : KdI X.K X.w X.mg nm kvs) (hg : Gl X nm) (he : PE X e (LE (kj J X) X.mg W fe)) (hd : (nm == ("__debug__" : Str)) = false := by decide) (hm : behindInMarks .In (.Name nm p) = false := by with_unfolding_all rfl) :
    PE X (.Compare e [.In] [.Name nm p] pos) (LE (kj J X) X.mg W (o1 fe (kKIn true kvs))) := by
  obtain ⟨a, gm, h1, _⟩ := kIn_ok T
  refine PE.imp (pe_cmpR h1 he (pe_glob (v := .ref a) hg gm rfl hd) hm) fun σ H Q h => LE.one h fun x res v ρ F H rs hx e q => ?_
  unfold kKIn at e
  split at e
  · cases e
    cases hx.str
    exact ⟨_, rfl, rfl, q.dat rs (.bl _)⟩
  · cases e
theorem pe_kni {X : Cx} {nm : Str} {e : Expr} {p pos : Pos} {fe : DE} {kvs : List (Str × D)} (T : KdI X.K X.w X.mg nm kvs) (hg : Gl X nm) (he : PE X e (LE (kj J X) X.mg W fe)) (hd : (nm == ("__debug__" : Str)) = false := by decide) (hm : behindInMarks .NotIn (.Name nm p) = false := by with_unfolding_all rfl) :
    PE X (.Compare e [.NotIn] [.Name nm p] pos) (LE (kj J X) X.mg W (o1 fe (kKIn false kvs))) := by
  obtain ⟨a, gm, _, h1⟩ := kIn_ok T
  refine PE.imp (pe_cmpR h1 he (pe_glob (v := .ref a) hg gm rfl hd) hm) fun σ H Q h => LE.one h fun x res v ρ F H rs hx e q => ?_
  unfold kKIn at e
  split at e
  · cases e
    cases hx.str
    exact ⟨_, rfl, rfl, q.dat rs (.bl _)⟩
  · cases e
/-- a value that is True or False as a test -/
theorem pt_ofE {X : Cx} {a : Expr} (ha : PE X a (LE (kj J X) X.mg W fa)) (he : ∀ whole, isTrue a X.env whole = (do let v ← whole; standAt a.pos; holding [v] (truthy v)) := by intro _; rfl) : PT X a (LT (kj J X) X.mg W (tV fa)) := pt_valD ha he
end
end Dn
end

section
set_option Elab.async false
set_option linter.all false
set_option maxRecDepth 100000
set_option maxHeartbeats 4000000
/-! Dn: chains of comparisons, x += e, and/or as values, stars, range with a step, slices stored. -/
namespace Dn
open PySem PySem.Spec PyProof.Rows L2 StX
section
variable {K : Fg} {mg : MG} {W : WX} {pr : Nat → Bool} {σ : L2.St} {ρ ρ1 ρ' : Env} {F F1 H H1 H0 : Hp} {v u : V} {f fa fb fc : DE} {x y : D}
/-! ### a < b < c -/
def xCh (fa fb fc : DE) (k1 k2 : D → D → Option R) : DE := bE fa fun a => bE fb fun b => fun ρ => match pk ρ (nrm a), pk ρ (nrm b) with
  | some x, some y => (match k1 x y with
    | some (.d (.bl true)) => bE fc (fun c => fun ρ => match pk ρ (nrm b), pk ρ (nrm c) with
      | some y, some z => lft (k2 y z) ρ
      | _, _ => none) ρ
    | some (.d (.bl false)) => some (.ok (.d (.bl false)), ρ)
    | _ => none)
  | _, _ => none
theorem LE.chain {k1 k2 : D → D → Option R} {r r' : R2} {Q : VK} (h1 : ∀ x y res v u ρ F H, RS K σ ρ F H → PK K F H x v → PK K F H y u → k1 x y = some res → ∀ Q, FinR K σ ρ F H res Q → r v u H Q)
    (h2 : ∀ x y res v u ρ F H, RS K σ ρ F H → PK K F H x v → PK K F H y u → k2 x y = some res → ∀ Q, FinR K σ ρ F H res Q → r' v u H Q)
    (h : LE K mg W (xCh fa fb fc k1 k2) σ H Q) : tChain r r' (LE K mg W fa) (LE K mg W fb) (LE K mg W fc) σ H Q := by
  obtain ⟨ρ, F, rr, ρ', rs, e, q⟩ := h
  refine LE.opnd (k := fun a => bE fb fun b => fun ρ => match pk ρ a, pk ρ (nrm b) with
    | some x, some y => (match k1 x y with
      | some (.d (.bl true)) => bE fc (fun c => fun ρ => match pk ρ (nrm b), pk ρ (nrm c) with
        | some y, some z => lft (k2 y z) ρ
        | _, _ => none) ρ
      | some (.d (.bl false)) => some (.ok (.d (.bl false)), ρ)
      | _ => none)
    | _, _ => none) rs e (fun x hx => by subst hx; exact q) fun a v ρ1 F1 H1 rs1 g1 ro e1 => ?_
  refine LE.opnd (k := fun b => fun ρ => match pk ρ a, pk ρ b with
    | some x, some y => (match k1 x y with
      | some (.d (.bl true)) => bE fc (fun c => fun ρ => match pk ρ b, pk ρ (nrm c) with
        | some y, some z => lft (k2 y z) ρ
        | _, _ => none) ρ
      | some (.d (.bl false)) => some (.ok (.d (.bl false)), ρ)
      | _ => none)
    | _, _ => none) rs1 e1 (fun x hx => by subst hx; exact EX.trans g1 q) fun b u ρ2 F2 H2 rs2 g2 ro2 e2 => ?_
  cases ea : pk ρ2 a with
  | none => simp [ea] at e2
  | some x =>
    cases eb : pk ρ2 b with
    | none => simp [ea, eb] at e2
    | some y =>
      simp only [ea, eb] at e2
      have px := pk_ok rs2 (ro.sub g2.mono) ea
      have py := pk_ok rs2 ro2 eb
      split at e2
      · rename_i ek
        refine h1 x y _ v u ρ2 F2 H2 rs2 px py ek _ fun w F' H' rs' g' rr' => ?_
        cases rr'
        refine ⟨true, rfl, ?_⟩
        rw [if_pos rfl]
        have gg := g1.trans (g2.trans g')
        have ro2' := ro2.sub g'.mono
        refine LE.opnd (k := fun c => fun ρ => match pk ρ b, pk ρ c with
          | some y, some z => lft (k2 y z) ρ
          | _, _ => none) rs' e2 (fun x hx => by subst hx; exact EX.trans gg q) fun c w' ρ3 F3 H3 rs3 g3 ro3 e3 => ?_
        cases eb' : pk ρ3 b with
        | none => simp [eb'] at e3
        | some y' =>
          cases ec : pk ρ3 c with
          | none => simp [eb', ec] at e3
          | some z =>
            simp only [eb', ec] at e3
            obtain ⟨res, e4, rfl, rfl⟩ := lft_some e3
            exact h2 y' z res u w' _ F3 H3 rs3 (pk_ok rs3 (ro2'.sub g3.mono) eb') (pk_ok rs3 ro3 ec) e4 _ fun w F' H' rs'' g'' r'' => q w F' H' rs'' (gg.trans (g3.trans g'')) (RR.weak (gg.trans g3).live r'')
      · rename_i ek
        cases e2
        refine h1 x y _ v u _ F2 H2 rs2 px py ek _ fun w F' H' rs' g' rr' => ?_
        cases rr'
        refine ⟨false, rfl, ?_⟩
        rw [if_neg Bool.false_ne_true]
        exact q _ F' H' rs' (g1.trans (g2.trans g')) (.bl _)
      · cases e2
theorem pe_chD {X : Cx} {op op' : CmpOp} {k1 k2 : D → D → Option R} {r r' : R2} {a b c : Expr} {pos : Pos} (C1 : CmpF X op k1 r) (C2 : CmpF X op' k2 r') (ha : PE X a (LE (kj J X) X.mg W fa)) (hb : PE X b (LE (kj J X) X.mg W fb)) (hc : PE X c (LE (kj J X) X.mg W fc)) (hm : lastMarks [op, op'] [b, c] = false := by with_unfolding_all rfl) :
    PE X (.Compare a [op, op'] [b, c] pos) (LE (kj J X) X.mg W (xCh fa fb fc k1 k2)) := PE.imp (pe_chain C1.rule C2.rule ha hb hc hm) fun _ _ _ h => LE.chain (fun x y res v u ρ F H rs hx hy e => C1.fn x y res v u ρ F H rs hx hy e) (fun x y res v u ρ F H rs hx hy e => C2.fn x y res v u ρ F H rs hx hy e) h
theorem pt_chD {X : Cx} {op op' : CmpOp} {k1 k2 : D → D → Option R} {r r' : R2} {a b c : Expr} {pos : Pos} (C1 : CmpF X op k1 r) (C2 : CmpF X op' k2 r') (ha : PE X a (LE (kj J X) X.mg W fa)) (hb : PE X b (LE (kj J X) X.mg W fb)) (hc : PE X c (LE (kj J X) X.mg W fc)) (hm : lastMarks [op, op'] [b, c] = false := by with_unfolding_all rfl) :
    PT X (.Compare a [op, op'] [b, c] pos) (LT (kj J X) X.mg W (tB (xCh fa fb fc k1 k2))) := PT.imp (pt_chain C1.rule C2.rule ha hb hc hm) fun σ H Q h => LE.chain (fun x y res v u ρ F H rs hx hy e => C1.fn x y res v u ρ F H rs hx hy e) (fun x y res v u ρ F H rs hx hy e => C2.fn x y res v u ρ F H rs hx hy e) (LT.bool h)
/-! ### x += e, x -= e: ints -/
def sAug (i : Nat) (f : DE) (k : Int → Int → Int) : DS := fun ρ => match gt ρ i with
  | some (.d (.int a)) => bS f (fun b => fun ρ => match pk ρ (nrm b) with
    | some (.int b) => if i < ρ.length then some (.nx, ρ.set i (some (.d (.int (k a b))))) else none
    | _ => none) ρ
  | _ => none
theorem LS.aug {i : Nat} {k : Int → Int → Int} {ti : TIp} (hk : ∀ a b H Q, Q (.int (k a b)) H → ti (.int a) (.int b) H Q) (hp : pr i = false) {D0 : Ends} {σ : L2.St} {H : Hp} (h : LS K mg W pr (sAug i f k) D0 σ H) : tAug i (LE K mg W f) ti D0 σ H := by
  obtain ⟨ρ, F, c, ρ', rs, e, q⟩ := h
  unfold sAug at e
  split at e
  · rename_i a eg
    obtain ⟨v, e1, e2⟩ := rs.dat i _ eg
    cases e2
    refine ⟨_, e1, ?_⟩
    refine LE.bindS rs e q fun b w ρ1 F1 H1 rs1 g1 rr e2 => ?_
    obtain ⟨F1', rs1', g1', ro⟩ := opnd_of rs1 g1 rr
    split at e2
    · rename_i b eb
      have pb := pk_ok rs1' ro eb
      cases pb.int
      split at e2
      · rename_i hi
        cases e2
        refine hk _ _ _ _ ?_
        obtain ⟨a1, b1⟩ := setD rs1' hi (.int (k a b))
        exact q _ _ _ a1 (g1'.trans b1) fun j hj => List.getElem?_set_ne (fun z => by subst z; rw [hp] at hj; cases hj)
      · cases e2
    · cases e2
  · cases e
theorem ps_augA {X : Cx} {i : Nat} {n : Str} {e : Expr} {pos pos' : Pos} (hp : pr i = false) (hN : X.N.Nodup) (hi : X.N[i]? = some n) (hx : Loc X.env.scope n) (he : PE X e (LE (kj J X) X.mg W f)) (hf : X.fn n = true ∨ X.env.scope.names.lookup n = some .local := by first | exact .inl rfl | exact .inr rfl | assumption) :
    PS X (.AugAssign (.Name n pos') .Add e pos) (LS (kj J X) X.mg W pr (sAug i f (· + ·))) := PS.imp (ps_aug hN hi hx he ip_add hf) fun D σ H h => LS.aug (fun a b H Q hq => ⟨a, b, rfl, rfl, hq⟩) hp h
theorem ps_augM {X : Cx} {i : Nat} {n : Str} {e : Expr} {pos pos' : Pos} (hp : pr i = false) (hN : X.N.Nodup) (hi : X.N[i]? = some n) (hx : Loc X.env.scope n) (he : PE X e (LE (kj J X) X.mg W f)) (hf : X.fn n = true ∨ X.env.scope.names.lookup n = some .local := by first | exact .inl rfl | exact .inr rfl | assumption) :
    PS X (.AugAssign (.Name n pos') .Sub e pos) (LS (kj J X) X.mg W pr (sAug i f (· - ·))) := PS.imp (ps_aug hN hi hx he ip_sub hf) fun D σ H h => LS.aug (fun a b H Q hq => ⟨a, b, rfl, rfl, hq⟩) hp h
/-! ### and, or, not as values: of True and False, the last of any kind -/
def isB : R → Option Bool
  | .d (.bl b) => some b
  | _ => none
def xAnd (fa fb : DE) : DE := bE fa fun a => fun ρ => match isB a with
  | some true => fb ρ
  | some false => some (.ok (.d (.bl false)), ρ)
  | none => none
def xOr (fa fb : DE) : DE := bE fa fun a => fun ρ => match isB a with
  | some false => fb ρ
  | some true => some (.ok (.d (.bl true)), ρ)
  | none => none
theorem isB_ok {a : R} {b : Bool} (h : isB a = some b) (rr : RR K σ ρ F H H0 a v) : v = .bl b := by
  cases a with
  | d x => cases x with
    | bl c => cases h; cases rr; rfl
    | _ => cases h
  | _ => cases h
theorem LE.then {Q : VK} {r : Except Exn R} (q : EE K mg W σ ρ F H r ρ' Q) (g1 : Gr σ ρ F H σ ρ1 F1 H1) (rs1 : RS K σ ρ1 F1 H1) (e : f ρ1 = some (r, ρ')) : LE K mg W f σ H1 Q := by
  refine ⟨ρ1, F1, r, ρ', rs1, e, ?_⟩
  cases r with
  | error x => exact EX.trans g1 q
  | ok a => exact fun w F' H' a b c => q w F' H' a (g1.trans b) (RR.weak g1.live c)
theorem LE.andV {Q : VK} (h : LE K mg W (xAnd fa fb) σ H Q) : tAndV (LE K mg W fa) (LE K mg W fb) σ H Q := by
  obtain ⟨ρ, F, r, ρ', rs, e, q⟩ := h
  refine LE.bind rs e (fun x hx => by subst hx; exact q) fun a v ρ1 F1 H1 rs1 g1 rr e1 => ?_
  split at e1
  · rename_i eb
    refine ⟨true, isB_ok eb rr, ?_⟩
    rw [if_pos rfl]
    exact LE.then q g1 rs1 e1
  · rename_i eb
    cases e1
    refine ⟨false, isB_ok eb rr, ?_⟩
    rw [if_neg Bool.false_ne_true]
    exact q _ F1 H1 rs1 g1 (.bl _)
  · cases e1
theorem LE.orV {Q : VK} (h : LE K mg W (xOr fa fb) σ H Q) : tOrV (LE K mg W fa) (LE K mg W fb) σ H Q := by
  obtain ⟨ρ, F, r, ρ', rs, e, q⟩ := h
  refine LE.bind rs e (fun x hx => by subst hx; exact q) fun a v ρ1 F1 H1 rs1 g1 rr e1 => ?_
  split at e1
  · rename_i eb
    refine ⟨false, isB_ok eb rr, ?_⟩
    rw [if_neg Bool.false_ne_true]
    exact LE.then q g1 rs1 e1
  · rename_i eb
    cases e1
    refine ⟨true, isB_ok eb rr, ?_⟩
    rw [if_pos rfl]
    exact q _ F1 H1 rs1 g1 (.bl _)
  · cases e1
def xNot (fa : DE) : DE := bE fa fun a => fun ρ => match isB a with
  | some b => some (.ok (.d (.bl !b)), ρ)
  | none => none
theorem LE.notV {Q : VK} (h : LE K mg W (xNot fa) σ H Q) : tNotV (LE K mg W fa) σ H Q := by
  obtain ⟨ρ, F, r, ρ', rs, e, q⟩ := h
  refine LE.bind rs e (fun x hx => by subst hx; exact q) fun a v ρ1 F1 H1 rs1 g1 rr e1 => ?_
  split at e1
  · rename_i b eb
    cases e1
    exact ⟨b, isB_ok eb rr, q _ F1 H1 rs1 g1 (.bl _)⟩
  · cases e1
section
variable {X : Cx} {a b : Expr} {rest : List Expr} {pos : Pos}
theorem pe_oneD {op : PySem.BoolOp} (ha : PE X a (LE (kj J X) X.mg W fa)) : PE X (.BoolOp op [a] pos) (LE (kj J X) X.mg W fa) := pe_one ha
theorem pe_andD (ha : PE X a (LE (kj J X) X.mg W fa)) (hb : PE X (.BoolOp .And (b :: rest) pos) (LE (kj J X) X.mg W fb)) : PE X (.BoolOp .And (a :: b :: rest) pos) (LE (kj J X) X.mg W (xAnd fa fb)) := PE.imp (pe_and ha hb) fun _ _ _ h => LE.andV h
theorem pe_orD (ha : PE X a (LE (kj J X) X.mg W fa)) (hb : PE X (.BoolOp .Or (b :: rest) pos) (LE (kj J X) X.mg W fb)) : PE X (.BoolOp .Or (a :: b :: rest) pos) (LE (kj J X) X.mg W (xOr fa fb)) := PE.imp (pe_or ha hb) fun _ _ _ h => LE.orV h
theorem pe_notD (ha : PE X a (LE (kj J X) X.mg W fa)) : PE X (.UnaryOp .Not a pos) (LE (kj J X) X.mg W (xNot fa)) := PE.imp (pe_not ha) fun _ _ _ h => LE.notV h
end
/-! ### what is never reached -/
theorem pe_neverD {X : Cx} {e : Expr} : PE X e (LE (kj J X) X.mg W fun _ => none) := ⟨fun _ _ _ _ _ _ ⟨_, _, _, _, _, e, _⟩ => by cases e⟩
theorem ps_neverD {X : Cx} {s : Stmt} : PS X s (LS (kj J X) X.mg W pr fun _ => none) := ⟨fun _ _ _ _ _ _ ⟨_, _, _, _, _, e, _⟩ => by cases e⟩
theorem pt_neverD {X : Cx} {e : Expr} : PT X e (LT (kj J X) X.mg W fun _ => none) := ⟨fun _ _ _ _ _ _ ⟨_, _, _, _, _, e, _⟩ => by cases e⟩
/-! ### displays with stars -/
def seqR (x : D) : Option (List R) := (seqOf x).map fun ds => ds.map .d
def eS : List (Bool × DE) → Dx (List R)
  | [] => rE []
  | (false, f) :: fs => bE f fun a => bE (eS fs) fun as => rE (nrm a :: as)
  | (true, f) :: fs => bE f fun a => fun ρ => match (pk ρ (nrm a)).bind seqR with
    | some bs => bE (eS fs) (fun as => rE (bs ++ as)) ρ
    | none => none
def LAS (K : Fg) (mg : MG) (W : WX) (fs : List (Bool × DE)) : TA := fun σ H Q => ∃ ρ F r ρ', RS K σ ρ F H ∧ eS fs ρ = some (r, ρ') ∧
  match (r : Except Exn (List R)) with
  | .ok as => ∀ vs F' H', RS K σ ρ' F' H' → Gr σ ρ F H σ ρ' F' H' → ROs K σ F' as vs → Q vs H'
  | .error x => EX K mg W σ ρ F H x ρ'
theorem LAS.bind {β : Type} {fs : List (Bool × DE)} {k : List R → Dx β} {r : Except Exn β} {G : List V → Hp → Prop} (rs : RS K σ ρ F H) (e : bE (eS fs) k ρ = some (r, ρ'))
    (herr : ∀ x, r = .error x → EX K mg W σ ρ F H x ρ')
    (hok : ∀ as vs ρ1 F1 H1, RS K σ ρ1 F1 H1 → Gr σ ρ F H σ ρ1 F1 H1 → ROs K σ F1 as vs → k as ρ1 = some (r, ρ') → G vs H1) : LAS K mg W fs σ H G := by
  unfold bE at e
  cases q : eS fs ρ with
  | none => rw [q] at e; cases e
  | some z =>
    obtain ⟨ra, ρ1⟩ := z
    rw [q] at e
    cases ra with
    | error x =>
      cases e
      exact ⟨ρ, F, .error x, ρ', rs, q, herr x rfl⟩
    | ok a => exact ⟨ρ, F, .ok a, ρ1, rs, q, fun v F' H' rs' g rr => hok a v ρ1 F' H' rs' g rr e⟩
theorem ROs.append : ∀ {as bs : List R} {vs us : List V}, ROs K σ F as vs → ROs K σ F bs us → ROs K σ F (as ++ bs) (vs ++ us)
  | _, _, _, _, .nil, h => h
  | _, _, _, _, .cons a b, h => .cons a (ROs.append b h)
theorem Reps.ros : ∀ {ds : List D} {vs : List V}, Reps K F ds vs → ROs K σ F (ds.map .d) vs
  | _, _, .nil => .nil
  | _, _, .cons a b => .cons a (Reps.ros b)
theorem seqR_ok (rs : RS K σ ρ F H) (h : PK K F H x v) {bs : List R} (e : seqR x = some bs) : ∃ a xs, v = .ref a ∧ (SqT K H a xs ∨ SqL K H a xs) ∧ ROs K σ F bs xs := by
  cases x with
  | lst ds =>
    cases e
    obtain ⟨a, xs, rfl, ha, ra⟩ := h.lst rs.sub
    exact ⟨a, xs, rfl, .inr (SqL.of ha), ra.ros⟩
  | tup ds =>
    cases e
    obtain ⟨a, xs, rfl, ha, ra⟩ := h.tup rs.sub
    exact ⟨a, xs, rfl, .inl ha, ra.ros⟩
  | ktup ds =>
    cases e
    obtain ⟨a, xs, rfl, ha, ra⟩ := h.ktup rs.sub
    exact ⟨a, xs, rfl, .inl ha, ra.ros⟩
  | src ns =>
    cases e
    obtain ⟨a, rfl, ha⟩ := h.src rs.sub
    exact ⟨a, _, rfl, .inr ha, (Reps.nums ns).ros⟩
  | _ => cases e
theorem LAS.nil {Q : List V → Hp → Prop} (h : LAS K mg W [] σ H Q) : tNil σ H Q := by
  obtain ⟨ρ, F, r, ρ', rs, e, q⟩ := h
  cases e
  exact q [] F H rs Gr.refl .nil
theorem LAS.cons {fs : List (Bool × DE)} {Q : List V → Hp → Prop} (h : LAS K mg W ((false, f) :: fs) σ H Q) : tCons (LE K mg W f) (LAS K mg W fs) σ H Q := by
  obtain ⟨ρ, F, r, ρ', rs, e, q⟩ := h
  refine LE.opnd (k := fun a => bE (eS fs) fun as => rE (a :: as)) rs e (fun x hx => by subst hx; exact q) fun a v ρ1 F1 H1 rs1 g1 ro e1 => ?_
  refine LAS.bind rs1 e1 (fun x hx => by subst hx; exact EX.trans g1 q) fun as vs ρ2 F2 H2 rs2 g2 ro2 e2 => ?_
  cases e2
  exact q (v :: vs) F2 H2 rs2 (g1.trans g2) (.cons (ro.sub g2.mono) ro2)
theorem LAS.star {fs : List (Bool × DE)} {Q : List V → Hp → Prop} (h : LAS K mg W ((true, f) :: fs) σ H Q) : tStar K (LE K mg W f) (LAS K mg W fs) σ H Q := by
  obtain ⟨ρ, F, r, ρ', rs, e, q⟩ := h
  refine LE.opnd (k := fun a => fun ρ => match (pk ρ a).bind seqR with
    | some bs => bE (eS fs) (fun as => rE (bs ++ as)) ρ
    | none => none) rs e (fun x hx => by subst hx; exact q) fun a v ρ1 F1 H1 rs1 g1 ro e1 => ?_
  cases ea : pk ρ1 a with
  | none => simp [ea] at e1
  | some x =>
    cases es : seqR x with
    | none => simp [ea, es] at e1
    | some bs =>
      simp only [ea, es, Option.bind_some] at e1
      obtain ⟨b, xs, rfl, hx, rb⟩ := seqR_ok rs1 (pk_ok rs1 ro ea) es
      refine ⟨b, xs, rfl, hx, ?_⟩
      refine LAS.bind rs1 e1 (fun x hx => by subst hx; exact EX.trans g1 q) fun as vs ρ2 F2 H2 rs2 g2 ro2 e2 => ?_
      cases e2
      exact q (xs ++ vs) F2 H2 rs2 (g1.trans g2) ((rb.sub g2.mono).append ro2)
def xTupS (fs : List (Bool × DE)) : DE := bE (eS fs) fun as => fun ρ => match toDs ρ as with
  | some (xs, ρ1) => if xs.length ≤ sizeLine then some (.ok (.d (.tup xs)), ρ1) else none
  | none => none
def xLstS (fs : List (Bool × DE)) : DE := bE (eS fs) fun as => fun ρ => match toDs ρ as with
  | some (xs, ρ1) => if xs.length ≤ sizeLine then some (.ok (.o (.lst xs)), ρ1) else none
  | none => none
theorem LE.tupS {fs : List (Bool × DE)} {Q : VK} (h : LE K mg W (xTupS fs) σ H Q) : tTup (LAS K mg W fs) σ H Q := by
  obtain ⟨ρ, F, r, ρ', rs, e, q⟩ := h
  refine LAS.bind rs e (fun x hx => by subst hx; exact q) fun as vs ρ1 F1 H1 rs1 g1 ro e1 => ?_
  split at e1
  · rename_i xs ρ2 et
    split at e1
    · rename_i hl
      cases e1
      obtain ⟨F2, rs2, g2, rx⟩ := toDs_ok rs1 ro et
      refine ⟨by rw [← rx.length]; exact hl, FinR.tup (F := F2) (fun w F' H' a b c => q w F' H' a (g1.trans (g2.trans b)) (RR.weak g1.live c)) rs2 rx⟩
    · cases e1
  · cases e1
theorem LE.lstS {fs : List (Bool × DE)} {Q : VK} (h : LE K mg W (xLstS fs) σ H Q) : tLst (LAS K mg W fs) σ H Q := by
  obtain ⟨ρ, F, r, ρ', rs, e, q⟩ := h
  refine LAS.bind rs e (fun x hx => by subst hx; exact q) fun as vs ρ1 F1 H1 rs1 g1 ro e1 => ?_
  split at e1
  · rename_i xs ρ2 et
    split at e1
    · rename_i hl
      cases e1
      obtain ⟨F2, rs2, g2, rx⟩ := toDs_ok rs1 ro et
      refine ⟨by rw [← rx.length]; exact hl, FinR.lst (F := F2) (fun w F' H' a b c => q w F' H' a (g1.trans (g2.trans b)) (RR.weak g1.live c)) rs2 rx⟩
    · cases e1
  · cases e1
section
variable {X : Cx} {e : Expr} {es : List Expr} {fs : List (Bool × DE)} {p pos : Pos}
theorem pas_nil : PA X [] (LAS (kj J X) X.mg W []) := PA.imp pa_nil fun _ _ _ h => LAS.nil h
theorem pas_cons (ha : PE X e (LE (kj J X) X.mg W f)) (hb : PA X es (LAS (kj J X) X.mg W fs)) (hs : starEach (e :: es) X.env = (false, eval e X.env) :: starEach es X.env := by rfl) : PA X (e :: es) (LAS (kj J X) X.mg W ((false, f) :: fs)) := PA.imp (pa_cons ha hb hs) fun _ _ _ h => LAS.cons h
theorem pas_star (ha : PE X e (LE (kj J X) X.mg W f)) (hb : PA X es (LAS (kj J X) X.mg W fs)) (hs : starEach (.Starred e p :: es) X.env = (true, eval e X.env) :: starEach es X.env := by rfl) : PA X (.Starred e p :: es) (LAS (kj J X) X.mg W ((true, f) :: fs)) := PA.imp (pa_star ha hb hs) fun _ _ _ h => LAS.star h
theorem pe_tupSD {x1} (h : PA X es (LAS (kj J X) X.mg W fs)) : PE X (.Tuple es x1 pos) (LE (kj J X) X.mg W (xTupS fs)) := PE.imp (pe_tup h) fun _ _ _ h => LE.tupS h
theorem pe_lstSD (h : PA X es (LAS (kj J X) X.mg W fs)) : PE X (.List es pos) (LE (kj J X) X.mg W (xLstS fs)) := PE.imp (pe_lst h) fun _ _ _ h => LE.lstS h
end
/-! ### a, *b = t -/
theorem unpackStar {prog : Program} {w : World} {A : Around} {E : Value → Shared → Prop} {s : Shared} {l : Addr} {x0 : Value} {rest : List Value} {items : Array Value} {Q : List Value → Shared → Prop} (hl : IsTup s.heap l items) (hi : items.toList = x0 :: rest) (hh : A.handled = none) (hz : items.size ≤ 16384)
    (h : ∀ (h' : Heap) (tk : Nat), (∀ b o, s.heap.get? b = some o → h'.get? b = some o) → Q [x0, .ref h'.objs.size] { s with heap := h'.push (seqObj "list" rest.toArray 0), toks := tk }) : wpAny (model prog w) A (unpackItems (.ref l) 2 (some 1)) Q E s := by
  have hsz : items.size = rest.length + 1 := by
    have := congrArg List.length hi
    simpa using this
  have hlt : l ≠ s.heap.objs.size := by obtain ⟨o, ho, _⟩ := hl; exact Nat.ne_of_lt (Heap.lt_size ho)
  have hll : l < s.heap.objs.size := by obtain ⟨o, ho, _⟩ := hl; exact Heap.lt_size ho
  unfold unpackItems
  refine wpAny_bind ?_
  unfold notIterableAtAll
  refine wpAny_bind (wpAny_specialOf hl.typeIs slot_tuple_iter.lookup ?_)
  refine wpAny_pure ?_
  simp only [Bool.false_eq_true, if_false]
  refine wpAny_bind (wpAny_holding (iter_tuple hl ?_))
  refine wpAny_bind (wpAny_holding (draw_tuple hlt 1 0 _ _ ⟨_, Heap.get?_push_size _ rfl, rfl, rfl⟩ (hl.push _) (by omega) fun h₁ hit₁ hs₁ => ?_))
  have hl₁ : IsTup h₁ l items := (hl.push _).extBut hs₁.extBut hlt
  rw [Nat.zero_add] at hit₁
  have hit₁' := hit₁
  obtain ⟨oi, hoi, _⟩ := hit₁'
  have hl₁' := hl₁
  obtain ⟨ol, hol, _⟩ := hl₁'
  rw [List.drop_zero, hi]
  have hfl : ((x0 :: rest).take 1).length = 1 := by simp
  rw [if_neg (show ¬ (((x0 :: rest).take 1).length < 1) by rw [hfl]; omega)]
  refine wpAny_bind (wpAny_holding (PySem.W.kun_collect (s := { s with heap := h₁ }) (T := "tuple_iterator") (.inr (.inr (.inr rfl))) (Walks.tuple (A := A.in1) hh s.heap.objs.size l hlt items) (fun j u st => st.1.typeIs) (k := 1) (by omega) ⟨hit₁, hl₁⟩ (Heap.lt_size hoi) (Heap.lt_size hol) (fun h₂ tk hk => ?_) (by rw [sizeLine_eq]; omega)))
  rw [hi]
  show wpAny _ _ (if rest.length < 2 - 1 - 1 then _ else _) _ _ _
  rw [if_neg (by omega)]
  show wpAny _ _ (newList (rest.take (rest.length - (2 - 1 - 1))) >>= fun d => pure ([x0] ++ [d] ++ rest.drop (rest.length - (2 - 1 - 1)))) _ _ _
  have e1 : rest.take (rest.length - (2 - 1 - 1)) = rest := by simp
  have e2 : rest.drop (rest.length - (2 - 1 - 1)) = [] := by simp
  rw [e1, e2]
  have he : Heap.ExtBut s.heap.objs.size s.heap h₂ := fun b o hb e => hk b o hb (hs₁.extBut b o hb (Heap.get?_push_of_some _ e))
  refine wpAny_bind (wpAny_newList ?_ (by rw [sizeLine_eq]; omega))
  refine wpAny_pure ?_
  have k2 : ∀ b o, s.heap.get? b = some o → h₂.get? b = some o := fun b o e => he b o (Nat.ne_of_lt (Heap.lt_size e)) e
  exact h h₂ tk k2
/-- the first, and the others as a list -/
def gSt (i j : Nat) : GT := fun x ρ => match x with
  | .tup (d :: ds) => if ds.length ≤ 10000 ∧ i < ρ.length ∧ j < ρ.length then some ((ρ.set i (some (.d d))).set j (some (.d (.lst ds)))) else none
  | _ => none
def gSt2 (K : PySem.W.Frag) (i j : Nat) : TG := fun v σ H Q => ∃ a x xs, v = .ref a ∧ SqT K H a (x :: xs) ∧ xs.length ≤ 10000 ∧ ∀ p, H p = none → Q ((σ.set i (some x)).set j (some (.ref p))) (upd H p (.lst xs))
theorem pg_st {X : Cx} {i j : Nat} {n m : Str} {k : Nat} {p1 p2 p3 pos : Pos} (hc : X.calm = true) (hN : X.N.Nodup) (hi : X.N[i]? = some n) (hj : X.N[j]? = some m) (hx : Loc X.env.scope n) (hy : Loc X.env.scope m)
    (hf : X.fn n = true ∨ X.env.scope.names.lookup n = some .local) (hg : X.fn m = true ∨ X.env.scope.names.lookup m = some .local)
    (ha : (assignEach [.Name n p1, .Starred (.Name m p2) p3] X.env).map (·.2) = [assign (.Name n p1) X.env, assign (.Name m p2) X.env] := by rfl)
    (hst : (assignEach [.Name n p1, .Starred (.Name m p2) p3] X.env).findIdx? (·.1) = some 1 := by rfl) (hl : (assignEach [.Name n p1, .Starred (.Name m p2) p3] X.env).length = 2 := by rfl) :
    PG X (.Tuple [.Name n p1, .Starred (.Name m p2) p3] k pos) (gSt2 X.K i j) := by
  refine ⟨fun pins s σ H v u Q I r hw => ?_⟩
  obtain ⟨a, x, xs, rfl, hq, hz, q⟩ := hw
  cases r
  obtain ⟨its, rv, ht, hz2⟩ := I.tuple hq
  cases rv with
  | @cons _ u0 _ ur ra rr =>
    rw [assign_Tuple]
    refine wpAny_bind (wpAny_standAt ?_)
    unfold unpack
    rw [hl, hst, ha]
    have hlen : ur.length = xs.length := rr.length.symm
    refine wpAny_bind (wpAny_holding (unpackStar (x0 := u0) (rest := ur) ht (by simp) (I.ok.hd hc) (by simp; omega) fun h' tk kk => ?_))
    have I2 : Inv X pins σ H { s with heap := h', toks := tk } := I.kept (t' := tk) kk
    have hp : H h'.objs.size = none := I2.hok.fresh (Nat.le_refl _)
    have I3 : Inv X pins σ (upd H h'.objs.size (.lst xs)) { s with heap := h'.push (seqObj "list" ur.toArray 0), toks := tk } :=
      I2.laid (t' := tk) (fun b o e => Heap.get?_push_of_some _ e) (Nat.le_refl _) (show ObjOk X.prog X.w _ _ _ (.lst xs) from ⟨by rw [sizeLine_eq]; omega, ur, 0, rr, Heap.get?_push_size _ rfl⟩)
    refine assignInOrder_cons (wpAny_assign_Name (store_ok I3 hN hi hx ra (fun s' I4 => ?_) hf))
    refine assignInOrder_cons (wpAny_assign_Name (store_ok (v := .ref h'.objs.size) I4 hN hj hy rfl (fun s'' I5 => ?_) hg))
    exact assignInOrder_nil ⟨_, _, I5, q _ hp⟩
theorem LG.st {i j : Nat} (hp : pr i = false) (hp2 : pr j = false) {Q : L2.St → Hp → Prop} (h : LG K pr (gSt i j) v σ H Q) : gSt2 K i j v σ H Q := by
  obtain ⟨ρ, F, x, ρ', rs, r, e, q⟩ := h
  unfold gSt at e
  split at e
  · rename_i d ds
    split at e
    · rename_i hc
      cases e
      cases r with
      | @tup a xs _ h1 h2 =>
        cases h2 with
        | @cons _ v0 _ vs r1 r2 =>
          refine ⟨a, v0, vs, rfl, SqT.of (rs.sub _ _ h1), by rw [← r2.length]; exact hc.1, fun p hp0 => ?_⟩
          obtain ⟨a1, b1, c1⟩ := newF (o := .lst vs) rs hp0
          obtain ⟨a2, b2⟩ := setD a1 hc.2.1 (r1.sub c1)
          have hl : j < (ρ.set i (some (Dn.S.d d))).length := by rw [List.length_set]; exact hc.2.2
          obtain ⟨a3, b3⟩ := setD a2 hl (.lst upd_same (r2.sub c1))
          refine q _ _ _ a3 (b1.trans (b2.trans b3)) fun m hm => ?_
          rw [List.getElem?_set_ne (fun z => by subst z; rw [hp2] at hm; cases hm), List.getElem?_set_ne (fun z => by subst z; rw [hp] at hm; cases hm)]
    · cases e
  · cases e
theorem pg_stD {X : Cx} {i j : Nat} {n m : Str} {k : Nat} {p1 p2 p3 pos : Pos} (hc : X.calm = true) (hN : X.N.Nodup) (hp : pr i = false) (hp2 : pr j = false) (hi : X.N[i]? = some n) (hj : X.N[j]? = some m) (hx : Loc X.env.scope n) (hy : Loc X.env.scope m)
    (hf : X.fn n = true ∨ X.env.scope.names.lookup n = some .local := by first | exact .inl rfl | exact .inr rfl) (hg : X.fn m = true ∨ X.env.scope.names.lookup m = some .local := by first | exact .inl rfl | exact .inr rfl)
    (ha : (assignEach [.Name n p1, .Starred (.Name m p2) p3] X.env).map (·.2) = [assign (.Name n p1) X.env, assign (.Name m p2) X.env] := by rfl)
    (hst : (assignEach [.Name n p1, .Starred (.Name m p2) p3] X.env).findIdx? (·.1) = some 1 := by rfl) (hl : (assignEach [.Name n p1, .Starred (.Name m p2) p3] X.env).length = 2 := by rfl) :
    PG X (.Tuple [.Name n p1, .Starred (.Name m p2) p3] k pos) (LG (kj J X) pr (gSt i j)) := PG.imp (pg_st hc hN hi hj hx hy hf hg ha hst hl) fun _ _ _ _ h => LG.st hp hp2 h
/-! ### range(a, b, -1) -/
def rngD (lo : Int) (n : Nat) : List D := (List.range n).map fun i => .int (lo + (i : Nat) * (-1))
theorem gives_rngD {lo : Int} {n : Nat} {F0 : Hp} : Gives K (Itc lo (-1) n) (rngD lo n) F0 := by
  intro i F H _ _
  have hl : (rngD lo n).length = n := by simp [rngD]
  refine ⟨fun h => by rw [hl] at h; exact h, fun d hd => ?_⟩
  have hi : i < n := by
    have := (List.getElem?_eq_some_iff.mp hd).1
    omega
  unfold rngD at hd
  rw [List.getElem?_map, List.getElem?_range hi] at hd
  cases hd
  exact ⟨hi, fun v H' hv => ⟨F, .inl ⟨rfl, hv.1⟩, by rw [hv.2]; exact .int _⟩⟩
def kRng3 : List D → Option (List D)
  | [.int i, .int j, .int k] => if k = -1 ∧ -4611686018427387904 ≤ i ∧ i < 4611686018427387904 ∧ -4611686018427387904 ≤ j ∧ j < 4611686018427387904 then some (rngD i (i - j).toNat) else none
  | _ => none
theorem pi_rng3D {X : Cx} {tg a b c : Expr} {p pos : Pos} (hg : Gl X "range") (hm : X.mg "range" = none) (ha : PA X [a, b, c] (LA (kj J X) X.mg W [fa, fb, fc])) (hs : starEach [a, b, c] X.env = (false, eval a X.env) :: starEach [b, c] X.env := by rfl) (hpl : (backTo pos (starEach [b, c] X.env)).any (·.1) = false := by rfl) :
    PI X tg (.Call (.Name "range" p) [a, b, c] [] pos) (LI (kj J X) X.mg W (itN [fa, fb, fc] kRng3)) :=
  PI.imp (pi_range3 hg hm ha hs hpl) fun σ H R0 h => LI.ops h fun xs vs ds ρ F H1 rs pk e q => by
    unfold kRng3 at e
    split at e
    · split at e
      · rename_i hc
        cases e
        cases pk with
        | cons h1 h2 =>
          obtain ⟨v2, v3, rfl, h2, h3⟩ := h2.two
          cases h1.int
          cases h2.int
          cases h3.int
          obtain ⟨hk, b1, b2, b3, b4⟩ := hc
          subst hk
          exact ⟨_, _, _, _, rfl, RgC.neg (by omega) (by omega) (by omega) (by omega), q _ gives_rngD⟩
      · cases e
    · cases e
end
end Dn
end

section
set_option Elab.async false
set_option linter.all false
set_option maxRecDepth 100000
set_option maxHeartbeats 4000000
/-! Dn: sorted: of ints, of texts, of tuples of texts; of a dict's keys. -/
namespace Dn
open PySem PySem.Spec PyProof.Rows L2
/-! ### total orders, one sorted list -/
structure Tot {α : Type} (lt : α → α → Bool) : Prop where
  irr : ∀ x, lt x x = false
  tr : ∀ x y z, lt x y = true → lt y z = true → lt x z = true
  tri : ∀ x y, lt x y = true ∨ x = y ∨ lt y x = true
section
variable {α β : Type} {lt : α → α → Bool}
theorem Tot.asym (T : Tot lt) {x y : α} (h : lt x y = true) : lt y x = false := by
  cases e : lt y x with
  | false => rfl
  | true =>
    have := T.tr x y x h e
    rw [T.irr] at this
    cases this
theorem Tot.anti (T : Tot lt) {x y : α} (h1 : lt x y = false) (h2 : lt y x = false) : x = y := by
  rcases T.tri x y with h | h | h
  · rw [h1] at h; cases h
  · exact h
  · rw [h2] at h; cases h
theorem Tot.swo (T : Tot lt) : SrtO.Swo lt := by
  refine ⟨fun x y h => T.asym h, fun x y z h1 h2 => ?_⟩
  cases e : lt z x with
  | false => rfl
  | true =>
    rcases T.tri x y with h | h | h
    · have := T.tr z x y e h
      rw [h2] at this
      cases this
    · subst h
      rw [h2] at e
      cases e
    · rw [h1] at h; cases h
theorem Tot.swoOn (T : Tot lt) (f : β → α) : SrtO.Swo fun x y => lt (f x) (f y) := ⟨fun x y h => T.swo.asym _ _ h, fun x y z h1 h2 => T.swo.tr _ _ _ h1 h2⟩
abbrev Sd (lt : α → α → Bool) (l : List α) : Prop := l.Pairwise fun x y => lt y x = false
theorem Tot.uniq (T : Tot lt) : ∀ {l m : List α}, l.Perm m → Sd lt l → Sd lt m → l = m
  | [], m, p, _, _ => p.nil_eq
  | x :: l, [], p, _, _ => absurd p.length_eq (by simp)
  | x :: l, y :: m, p, hl, hm => by
    obtain ⟨hl1, hl2⟩ := List.pairwise_cons.mp hl
    obtain ⟨hm1, hm2⟩ := List.pairwise_cons.mp hm
    have e : x = y := by
      have hx : x ∈ y :: m := p.mem_iff.mp List.mem_cons_self
      have hy : y ∈ x :: l := p.mem_iff.mpr List.mem_cons_self
      rcases List.mem_cons.mp hx with e | hx
      · exact e
      · rcases List.mem_cons.mp hy with e | hy
        · exact e.symm
        · exact T.anti (hm1 x hx) (hl1 y hy)
    subst e
    rw [Tot.uniq T p.cons_inv hl2 hm2]
def insB (lt : α → α → Bool) (x : α) : List α → List α
  | [] => [x]
  | y :: ys => if lt y x = true then y :: insB lt x ys else x :: y :: ys
def srt (lt : α → α → Bool) : List α → List α
  | [] => []
  | x :: xs => insB lt x (srt lt xs)
theorem insB_perm (x : α) : ∀ l : List α, (insB lt x l).Perm (x :: l)
  | [] => List.Perm.refl _
  | y :: ys => by
    unfold insB
    split
    · exact ((insB_perm x ys).cons y).trans (List.Perm.swap x y ys)
    · exact List.Perm.refl _
theorem srt_perm : ∀ l : List α, (srt lt l).Perm l
  | [] => List.Perm.refl _
  | x :: xs => (insB_perm x _).trans ((srt_perm xs).cons x)
theorem insB_sd (T : Tot lt) (x : α) : ∀ {l : List α}, Sd lt l → Sd lt (insB lt x l)
  | [], _ => List.pairwise_singleton _ _
  | y :: ys, h => by
    obtain ⟨h1, h2⟩ := List.pairwise_cons.mp h
    unfold insB
    split
    · rename_i hy
      refine List.pairwise_cons.mpr ⟨fun z hz => ?_, insB_sd T x h2⟩
      rcases List.mem_cons.mp ((insB_perm x ys).mem_iff.mp hz) with e | hz
      · rw [e]; exact T.asym hy
      · exact h1 z hz
    · rename_i hy
      have hy : lt y x = false := by simpa using hy
      refine List.pairwise_cons.mpr ⟨fun z hz => ?_, h⟩
      rcases List.mem_cons.mp hz with e | hz
      · rw [e]; exact hy
      · exact T.swo.tr x y z hy (h1 z hz)
theorem srt_sd (T : Tot lt) : ∀ l : List α, Sd lt (srt lt l)
  | [] => List.Pairwise.nil
  | x :: xs => insB_sd T x (srt_sd T xs)
theorem srt_of (T : Tot lt) {l m : List α} (p : l.Perm m) (h : Sd lt l) : l = srt lt m := T.uniq (p.trans (srt_perm m).symm) h (srt_sd T m)
/-- by items, from the left -/
def lexA [DecidableEq α] (lt : α → α → Bool) : List α → List α → Bool
  | [], [] => false
  | [], _ :: _ => true
  | _ :: _, [] => false
  | x :: xs, y :: ys => if x = y then lexA lt xs ys else lt x y
theorem lexA_tot [DecidableEq α] (T : Tot lt) : Tot (lexA lt) := by
  refine ⟨?_, ?_, ?_⟩
  · intro x
    induction x with
    | nil => rfl
    | cons a r ih =>
      unfold lexA
      rw [if_pos rfl]
      exact ih
  · intro x
    induction x with
    | nil =>
      intro y z h1 h2
      cases z with
      | nil => cases y <;> cases h2
      | cons c r => rfl
    | cons a x ih =>
      intro y z h1 h2
      cases y with
      | nil => cases h1
      | cons b y =>
        cases z with
        | nil => cases h2
        | cons c z =>
          unfold lexA at h1 h2 ⊢
          by_cases e1 : a = b
          · rw [if_pos e1] at h1
            subst e1
            by_cases e2 : a = c
            · rw [if_pos e2] at h2 ⊢
              exact ih y z h1 h2
            · rw [if_neg e2] at h2 ⊢
              exact h2
          · rw [if_neg e1] at h1
            by_cases e2 : b = c
            · subst e2
              rw [if_neg e1]
              exact h1
            · rw [if_neg e2] at h2
              have h3 := T.tr a b c h1 h2
              have e3 : a ≠ c := fun z => by
                subst z
                rw [T.irr] at h3
                cases h3
              rw [if_neg e3]
              exact h3
  · intro x
    induction x with
    | nil =>
      intro y
      cases y with
      | nil => exact .inr (.inl rfl)
      | cons b y => exact .inl rfl
    | cons a x ih =>
      intro y
      cases y with
      | nil => exact .inr (.inr rfl)
      | cons b y =>
        unfold lexA
        by_cases e : a = b
        · subst e
          rw [if_pos rfl, if_pos rfl]
          rcases ih y with h | h | h
          · exact .inl h
          · exact .inr (.inl (by rw [h]))
          · exact .inr (.inr h)
        · rw [if_neg e, if_neg (Ne.symm e)]
          rcases T.tri a b with h | h | h
          · exact .inl h
          · exact absurd h e
          · exact .inr (.inr h)
end
def ltN (a b : Nat) : Bool := decide (a < b)
theorem ltN_tot : Tot ltN := ⟨fun x => decide_eq_false (Nat.lt_irrefl x), fun x y z h1 h2 => decide_eq_true (Nat.lt_trans (of_decide_eq_true h1) (of_decide_eq_true h2)), fun x y => by
  rcases Nat.lt_trichotomy x y with h | h | h
  · exact .inl (decide_eq_true h)
  · exact .inr (.inl h)
  · exact .inr (.inr (decide_eq_true h))⟩
def ltI (a b : Int) : Bool := decide (a < b)
theorem ltI_tot : Tot ltI := ⟨fun x => decide_eq_false (Int.lt_irrefl x), fun x y z h1 h2 => decide_eq_true (Int.lt_trans (of_decide_eq_true h1) (of_decide_eq_true h2)), fun x y => by
  rcases Int.lt_trichotomy x y with h | h | h
  · exact .inl (decide_eq_true h)
  · exact .inr (.inl h)
  · exact .inr (.inr (decide_eq_true h))⟩
theorem lexN_eq : ∀ a b : List Nat, decide (a < b) = lexA ltN a b
  | [], [] => by simp [lexA]
  | [], _ :: _ => by simp [lexA]
  | _ :: _, [] => by simp [lexA]
  | a :: x, b :: y => by
    have ih := lexN_eq x y
    have e0 : lexA ltN (a :: x) (b :: y) = if a = b then lexA ltN x y else ltN a b := rfl
    rw [e0]
    by_cases e : a = b
    · subst e
      rw [if_pos rfl, ← ih, decide_eq_decide]
      simp [List.cons_lt_cons_iff]
    · rw [if_neg e]
      unfold ltN
      rw [decide_eq_decide]
      simp [List.cons_lt_cons_iff, e]
def ltS (a b : Str) : Bool := decide (a.cps.toList < b.cps.toList)
theorem str_ext {a b : Str} (h : a.cps.toList = b.cps.toList) : a = b := by
  obtain ⟨a⟩ := a
  obtain ⟨b⟩ := b
  simp only [Array.toList_inj] at h
  rw [h]
theorem ltS_tot : Tot ltS := by
  have e : ∀ a b : Str, ltS a b = lexA ltN a.cps.toList b.cps.toList := fun a b => lexN_eq _ _
  have T := lexA_tot ltN_tot
  refine ⟨fun x => by rw [e]; exact T.irr _, fun x y z h1 h2 => by rw [e] at h1 h2 ⊢; exact T.tr _ _ _ h1 h2, fun x y => ?_⟩
  rw [e, e]
  rcases T.tri x.cps.toList y.cps.toList with h | h | h
  · exact .inl h
  · exact .inr (.inl (str_ext h))
  · exact .inr (.inr h)
def ltT : List Str → List Str → Bool := lexA ltS
theorem ltT_tot : Tot ltT := lexA_tot ltS_tot
/-! ### over the library: texts, tuples of texts -/
section
variable {prog : Program} {w : World} {A : Around} {E : Value → Shared → Prop} {s : Shared}
def sv : Value → Str
  | .str x _ => x
  | _ => ""
theorem strs_mem : ∀ {vs : List Value} {ns : List Str}, StrsAre vs ns → ∀ v ∈ vs, ∃ i t, v = Value.str i t
  | _, _, .nil, v, h => absurd h (by simp)
  | _, _, .cons n t r, v, h => by
    rcases List.mem_cons.mp h with e | h
    · exact ⟨n, t, e⟩
    · exact strs_mem r v h
theorem str_cmp {vs : List Value} {ns : List Str} (hI : StrsAre vs ns) : SrtO.Cmp prog w A s oneType' (fun p => p.1 ∈ vs) (SrtO.lt2 fun x y => ltS (sv x) (sv y)) := by
  intro p q hm hm'
  obtain ⟨a, t, e⟩ := strs_mem hI _ hm
  obtain ⟨b, u, e'⟩ := strs_mem hI _ hm'
  show wpAny (model prog w) A (keyLt' oneType' p.1 q.1) (fun r s' => s' = s ∧ r = ltS (sv p.1) (sv q.1)) (fun _ _ => False) s
  rw [e, e', keyLt'_oneType]
  exact oneLt_str ⟨rfl, rfl⟩
theorem strs_sortable {a : Addr} {vs : List Value} {ns : List Str} (hI : StrsAre vs ns) (h2 : 2 ≤ vs.length) : SrtO.SortableO prog w A s a vs (fun x y => ltS (sv x) (sv y)) := by
  intro h' _
  refine ⟨oneType', fun Q E hq => ?_, str_cmp hI⟩
  match vs, hI, h2 with
  | v1 :: v2 :: rest, hI, _ =>
    rw [keyKind_strs hI]
    exact wpAny_pure hq
  | [], _, h => exact absurd h (by decide)
  | [v], _, h => exact absurd h (by simp)
/-- a tuple of texts, not empty -/
def IsTS (h : Heap) (v : Value) (xs : List Str) : Prop := ∃ a o its n, v = .ref a ∧ h.get? a = some o ∧ o.cls = .type "tuple" ∧ o.data = .seq its n ∧ StrsAre its.toList xs ∧ xs ≠ []
theorem IsTS.keeps {h h' : Heap} {v : Value} {xs : List Str} (p : IsTS h v xs) (k : ∀ b o, h.get? b = some o → o.cls = .type "tuple" → h'.get? b = some o) : IsTS h' v xs := by
  obtain ⟨a, o, its, n, e, ho, hc, hd, hs, hx⟩ := p
  exact ⟨a, o, its, n, e, k _ _ ho hc, hc, hd, hs, hx⟩
theorem oneLt_strs (c : Bool) {p q : Str} {t u : Tok} {Q : Bool → Shared → Prop} (h : Q (ltS p q) s) : wpAny (model prog w) A (oneLt' c (.str p t) (.str q u)) Q E s := by
  cases c with
  | true => exact oneLt_str h
  | false => exact PySem.W.kat_one _ _ (PyProof.Rows.lt_str (Q := PySem.W.BoolBack Q) h)
theorem lex_strs {b fin : Bool} {Q : Bool → Shared → Prop} {xs ys : List Value} {ns ms : List Str} (i : Nat) (hx : StrsAre xs ns) (hy : StrsAre ys ms) (hf : fin = decide (ns.length < ms.length)) (h : Q (ltT ns ms) s) : PySem.W.KatLex prog w A b fin Q (xs.zip ys) i s := by
  induction hx generalizing ys ms i with
  | nil =>
    refine PySem.W.kat_nil ?_
    cases hy with
    | nil => rw [hf]; exact h
    | cons m t r => rw [hf]; exact h
  | @cons n t xs ns rx ih =>
    cases hy with
    | nil =>
      refine PySem.W.kat_nil ?_
      have : fin = false := by rw [hf]; simp
      rw [this]
      exact h
    | @cons m u ys ms ry =>
      refine PySem.W.kat_cons (SeqAt.EqAt.str_str n t m u prog w _ _ ?_)
      refine PySem.W.kat_go (fun e1 => ?_) (fun e1 => ?_)
      · have ex : n = m := by simpa using e1
        refine PySem.W.kat_yes (ih (i + 1) ry (by rw [hf]; simp) ?_)
        have : ltT (n :: ns) (m :: ms) = ltT ns ms := by
          show (if n = m then lexA ltS ns ms else ltS n m) = lexA ltS ns ms
          rw [if_pos ex]
        rw [← this]
        exact h
      · have ex : ¬ n = m := by simpa using e1
        refine PySem.W.kat_no (oneLt_strs _ ?_)
        have : ltT (n :: ns) (m :: ms) = ltS n m := by
          show (if n = m then lexA ltS ns ms else ltS n m) = ltS n m
          rw [if_neg ex]
        rw [← this]
        exact h
theorem strs_len : ∀ {vs : List Value} {ns : List Str}, StrsAre vs ns → vs.length = ns.length
  | _, _, .nil => rfl
  | _, _, .cons _ _ r => congrArg (· + 1) (strs_len r)
theorem ts_cmp {vs : List Value} {k : Value → List Str} (hp : ∀ v ∈ vs, IsTS s.heap v (k v)) : SrtO.Cmp prog w A s (tuples' true) (fun p => p.1 ∈ vs) (SrtO.lt2 fun v u => ltT (k v) (k u)) := by
  intro p q hm hm'
  have h1 := hp _ hm
  have h2 := hp _ hm'
  show wpAny (model prog w) A (keyLt' (tuples' true) p.1 q.1) (fun r s' => s' = s ∧ r = ltT (k p.1) (k q.1)) (fun _ _ => False) s
  generalize k p.1 = x at h1 ⊢
  generalize k q.1 = y at h2 ⊢
  obtain ⟨a, o, its, n, e, ho, hc, hd, hs, hx⟩ := h1
  obtain ⟨a', o', its', n', e', ho', hc', hd', hs', hx'⟩ := h2
  rw [e, e']
  refine PySem.W.kat_lt ho hd ho' hd' ?_
  refine lex_strs 0 hs hs' ?_ ⟨rfl, rfl⟩
  rw [← strs_len hs, ← strs_len hs', Array.length_toList, Array.length_toList]
theorem ts_firsts {h : Heap} {k : Value → List Str} : ∀ {vs : List Value}, (∀ v ∈ vs, IsTS h v (k v)) → ∃ fs : List Value, PySem.W.KatTups h vs fs ∧ fs.length = vs.length ∧ ∀ f ∈ fs, ∃ x t, f = Value.str x t
  | [], _ => ⟨[], PySem.W.KatTups.nil, rfl, fun _ hm => by simp at hm⟩
  | v :: vs, hp => by
    obtain ⟨fs, h1, h2, h3⟩ := ts_firsts (vs := vs) fun v' hm => hp v' (List.mem_cons_of_mem _ hm)
    obtain ⟨a, o, its, n, e, ho, hc, hd, hs, hx⟩ := hp v (List.mem_cons_self ..)
    subst e
    cases hl : its.toList with
    | nil =>
      rw [hl] at hs
      generalize k (.ref a) = kk at hs hx
      cases hs
      exact absurd rfl hx
    | cons y ys =>
      rw [hl] at hs
      generalize k (.ref a) = kk at hs hx
      cases hs with
      | cons x t r =>
        have h0 : its[0]? = some (.str x t) := by
          rw [← Array.getElem?_toList, hl]
          rfl
        refine ⟨.str x t :: fs, PySem.W.KatTups.cons ho hc hd h0 h1, by rw [List.length_cons, List.length_cons, h2], fun f hm => ?_⟩
        rcases List.mem_cons.mp hm with rfl | hm
        · exact ⟨x, t, rfl⟩
        · exact h3 f hm
theorem ts_sortable {a : Addr} {vs : List Value} {k : Value → List Str} (h0 : 0 < vs.length) (hp : ∀ v ∈ vs, IsTS s.heap v (k v)) (ha : ∀ o, s.heap.get? a = some o → o.cls ≠ .type "tuple") : SrtO.SortableO prog w A s a vs fun v u => ltT (k v) (k u) := by
  intro h' keep
  have hp' : ∀ v ∈ vs, IsTS h' v (k v) := fun v hm => (hp v hm).keeps fun b o e c => keep b o (fun z => by subst z; exact ha o e c) e
  obtain ⟨fs, h1, h2, h3⟩ := ts_firsts hp'
  refine ⟨tuples' true, fun Q E hq => ?_, ts_cmp hp'⟩
  refine PySem.W.kat_kind (T := .type "str") h1 (by omega) (fun f hm => ?_) (by rfl) ?_
  · obtain ⟨x, t, rfl⟩ := h3 f hm
    exact PySem.W.Looks.now
  · have e : (Value.type "str" != Value.type "tuple") = true := by first | decide +kernel | rfl | decide
    rw [e]
    exact hq
end
end Dn
end

section
set_option Elab.async false
set_option linter.all false
set_option maxRecDepth 100000
set_option maxHeartbeats 4000000
/-! Dn: len(set(texts)); own exceptions by what the written part says; defaults. -/
namespace Dn
open PySem PySem.Spec PyProof.Rows L2
/-! ### len(set(xs)), xs texts -/
def stepS (σ : List Str) (x : Str) : List Str := if σ.any (· == x) = true then σ else σ ++ [x]
def metS (val : Nat → Str) (i : Nat) : List Str := ((List.range i).map val).foldl stepS []
theorem metS_zero (val : Nat → Str) : metS val 0 = [] := rfl
theorem metS_succ (val : Nat → Str) (i : Nat) : metS val (i + 1) = stepS (metS val i) (val i) := by
  unfold metS; rw [List.range_succ, List.map_append, List.foldl_append]; rfl
theorem stepS_any (σ : List Str) (v k : Str) : (stepS σ v).any (· == k) = (σ.any (· == k) || decide (k = v)) := by
  unfold stepS
  by_cases h : σ.any (· == v) = true
  · rw [if_pos h]
    by_cases e : k = v
    · subst e; rw [h]; simp
    · simp [e]
  · rw [if_neg h, List.any_append]
    by_cases e : k = v
    · subst e; simp
    · have hb : (v == k) = false := by simpa [beq_iff_eq] using (fun h' : v = k => e h'.symm)
      simp [hb, e]
theorem stepS_length (σ : List Str) (v : Str) : (stepS σ v).length = if σ.any (· == v) then σ.length else σ.length + 1 := by
  unfold stepS; split <;> simp
theorem metS_le (val : Nat → Str) : ∀ i, (metS val i).length ≤ i
  | 0 => by rw [metS_zero]; exact Nat.le_refl _
  | i + 1 => by
    rw [metS_succ, stepS_length]
    have ih := metS_le val i
    split <;> omega
section
variable {prog : Program} {w : World} {A : Around} {R : Result → Shared → Prop} {I : Addr} {fp wr : List Addr} {G : Array GenState → Array GenState → Prop} {n : Nat} {P : Nat → Value → Prop} {St : Nat → Shared → Prop}
theorem loopStrs (W : WalksS prog w A.in1 I fp wr G n P St) (S : Addr) (hSf : S ∉ fp)
    (val : Nat → Str) (hval : ∀ i v, P i v → ∃ t, v = .str (val i) t) (hb : n + 1 < scanBound) :
    ∀ (k i : Nat) (s : Shared), n - i = k → i ≤ n → St i s →
      s.heap.SetOf (PySem.strKind prog w) S (fun k' => (metS val i).any (· == k')) (metS val i).length →
      (∀ s', Moved (S :: wr) G s s' → s'.heap.SetOf (PySem.strKind prog w) S (fun k' => (metS val n).any (· == k')) (metS val n).length → R (.ok (.ret .none)) s') →
      codeAny (model prog w) A (.builtin "set.update.loop" ⟨[.ref S, .ref I], []⟩) R s := by
  have hSw : S ∉ wr := fun h => hSf (W.sub _ h)
  have hsub : ∀ b ∈ wr, b ∈ S :: wr := fun b hb => List.mem_cons_of_mem _ hb
  intro k
  induction k with
  | zero =>
    intro i s hk hi hst hS hR
    have hin : i = n := by omega
    subst hin
    refine codeAny_builtin PyProof.Rows.F.entry_set_update_loop ?_
    rw [Around.under_plainId PyProof.Rows.F.plain_set_update_loop _]
    show wpAny _ A.in1 (pyNext (.ref I) >>= _) _ _ s
    refine wpAny_bind (W.done s _ _ hst fun s' hm => ?_)
    show wpAny _ A.in1 (ret Value.none) _ _ s'
    exact wpAny_pure (hR s' (hm.mono hsub) (by
      obtain ⟨o, es, ep, t, ho, rest⟩ := hS
      exact ⟨o, es, ep, t, hm.heap S _ hSw ho, rest⟩))
  | succ k ih =>
    intro i s hk hi hst hS hR
    have hlt : i < n := by omega
    refine codeAny_builtin PyProof.Rows.F.entry_set_update_loop ?_
    rw [Around.under_plainId PyProof.Rows.F.plain_set_update_loop _]
    show wpAny _ A.in1 (pyNext (.ref I) >>= _) _ _ s
    refine wpAny_bind (W.item i s _ _ hlt hst fun v s' hP hst' hm => ?_)
    obtain ⟨t, rfl⟩ := hval i v hP
    have hS' : s'.heap.SetOf (PySem.strKind prog w) S (fun k' => (metS val i).any (· == k')) (metS val i).length := by
      obtain ⟨o, es, ep, tb, ho, rest⟩ := hS
      exact ⟨o, es, ep, tb, hm.heap S _ hSw ho, rest⟩
    show wpAny _ A.in1 (holding [Value.str (val i) t] (setAdd S (.str (val i) t)) >>= _) _ _ s'
    refine wpAny_bind (wpAny_holding ?_)
    unfold setAdd
    refine wpAny_holding ?_
    refine wpAny_bind ((PySem.strKind prog w).pyHash (k := val i) (strKind_is _ _ _ _) ?_)
    have hroom : (metS val i).length + 1 < scanBound := by have := metS_le val i; omega
    refine wpAny_setAddHashed_of (knd := PySem.strKind prog w) (s := { s' with toks := s'.toks + 1 }) (strKind_is _ _ _ _) rfl hS' hroom fun h' hsb hS2 => ?_

    have hSi : h'.SetOf (PySem.strKind prog w) S (fun k' => (metS val (i + 1)).any (· == k')) (metS val (i + 1)).length :=
      SetOf_congr hS2 (fun k' => by rw [metS_succ, stepS_any]) (by rw [metS_succ, stepS_length])
    refine wpAny_pure ⟨plainId_quiet PyProof.Rows.F.plain_set_update_loop _, ih (i + 1) _ (by omega) hlt (W.frame _ s' _ _ hst' (Nat.le_succ _) fun b hb o e => ?_) hSi fun s'' hm'' hS'' => ?_⟩
    · rw [hsb.2 b (fun h : b = S => hSf (by rw [← h]; exact hb))]; exact e
    · refine hR s'' (Moved.trans W.gtrans ((hm.mono hsub).then_heap (Nat.le_succ _) fun b o hb e => ?_) hm'') hS''
      rw [hsb.2 b (fun h : b = S => hb (by rw [h]; exact List.mem_cons_self))]; exact e
end
section
variable {prog : Program} {w : World} {A : Around} {E : Value → Shared → Prop} {s : Shared}
set_option maxHeartbeats 6400000 in
theorem call_set_strs {l : Addr} {items : Array Value} {ns : List Str} {Q : Value → Shared → Prop}
    (hh : A.handled = none) (hl : s.heap.IsList l items) (hi : PyProof.Rows.StrsAre items.toList ns) (hb : items.size + 1 < scanBound)
    (h : ∀ (h' : Heap) (tk : Nat), h'.SetOf (PySem.strKind prog w) s.heap.objs.size (fun k' => (metS (fun i => ns.getD i Str.empty) items.size).any (· == k')) (metS (fun i => ns.getD i Str.empty) items.size).length →
      (∀ b o, b < s.heap.objs.size → s.heap.get? b = some o → h'.get? b = some o) → Q (.ref s.heap.objs.size) { s with heap := h', toks := tk }) :
    wpAny (model prog w) A (call (.type "set") [.ref l]) Q E s := by
  obtain ⟨c, tl, hmro⟩ := PySem.F.called_set.mro
  have hmade := PySem.F.called_set.made
  have hsub := PySem.F.called_set.sub
  refine wpAny_call (codeAny_of_tree ?_)
  show wpAny _ _ (callAny (.type "set") _) _ _ _
  refine wpAny_pure ⟨Code.quiet_builtin _ (by decide +kernel), codeAny_builtin PySem.F.entry_type_call ?_⟩
  rw [Around.under_plain (weight_type_call_type "set" [.ref l] []) rfl]
  have h1 := PySem.F.called_set.notType
  have h2 := PySem.F.called_set.canCreate
  have hct := PySem.F.typeCall_set_1 (.ref l)
  repeat (any_goals (first | assumption | wp_step))

  refine codeAny_mono (code_set_new_1 (.ref l) (E := E) (Q₁ := fun obj s₁ => ∃ led : Bool, obj = .ref s.heap.objs.size ∧ s₁ = { s with heap := s.heap.push { cls := .type "set", dict := none, data := .set #[] 0 (.fresh 0 0 led) } }) fun led => ⟨led, rfl, rfl⟩) fun r s₁ hr => ?_
  cases r with
  | error e => exact hr
  | ok fl =>
    cases fl with
    | ret obj =>
      obtain ⟨led, rfl, rfl⟩ := hr
      have hS : (s.heap.push { cls := .type "set", dict := none, data := .set #[] 0 (.fresh 0 0 led) }).get? s.heap.objs.size = some { cls := .type "set", dict := none, data := .set #[] 0 (.fresh 0 0 led) } := Heap.get?_push_size _ rfl
      have hT : Shared.TypeIs { s with heap := s.heap.push { cls := .type "set", dict := none, data := .set #[] 0 (.fresh 0 0 led) } } (.ref s.heap.objs.size) "set" := ⟨_, hS, rfl⟩
      have hli := PySem.F.called_set.init.lookup
      have hbi := PySem.F.called_set.init.bind (.ref s.heap.objs.size)
      repeat (any_goals (first | assumption | wp_step))

      refine codeAny_mono (codeAny_call_builtin (R := wants (fun r s₂ => r = .none ∧ ∃ h' tk, s₂ = { s with heap := h', toks := tk } ∧
          h'.SetOf (PySem.strKind prog w) s.heap.objs.size (fun k' => (metS (fun i => ns.getD i Str.empty) items.size).any (· == k')) (metS (fun i => ns.getD i Str.empty) items.size).length ∧
          (∀ b o, b < s.heap.objs.size → s.heap.get? b = some o → h'.get? b = some o)) E) PySem.F.called_set.init.plain PySem.F.entry_set_init (check_set_init_1 hT ?_)) fun r₂ s₂ hr₂ => ?_
      · obtain ⟨ol, hol, hcl, nl, hdl⟩ := hl
        obtain ⟨ocls, odict, odata, oslots⟩ := ol
        simp only at hcl hdl
        subst hcl; subst hdl
        have hol' : (s.heap.push { cls := .type "set", dict := none, data := .set #[] 0 (.fresh 0 0 led) }).get? l = some { cls := .type "list", dict := odict, data := .seq items nl, slots := oslots } := Heap.get?_push_of_some _ hol
        have hsls := PySem.F.sub_list_set
        have hslf := PySem.F.sub_list_frozenset
        have hne : (Value.type "list" == Value.type "dict") = false := by decide
        have hl1 : (s.heap.push { cls := .type "set", dict := none, data := .set #[] 0 (.fresh 0 0 led) }).IsList l items := ⟨_, hol', rfl, nl, rfl⟩
        unfold Builtin.«set.__init__» noKeywords Builtin.Frozenset.updateFrom
        generalize hPI : pyIter = PI
        wp_walk
        subst hPI

        refine wpAny_pyIter_list hl1 ?_
        refine wpAny_bind (wpAny_runValue ?_)
        have hlS : l < s.heap.objs.size := Heap.lt_size hol
        have hh3 : A.in1.in1.in1.handled = none := by simp [hh]
        have hneI : l ≠ (s.heap.push { cls := .type "set", dict := none, data := .set #[] 0 (.fresh 0 0 led) }).objs.size := by
          rw [Heap.size_push]; exact Nat.ne_of_lt (Nat.lt_succ_of_lt hlS)
        have hSf : s.heap.objs.size ∉ [(s.heap.push { cls := .type "set", dict := none, data := .set #[] 0 (.fresh 0 0 led) }).objs.size, l] := by
          rw [Heap.size_push]; simp only [List.mem_cons, List.mem_singleton, List.not_mem_nil, or_false, not_or]
          exact ⟨Nat.ne_of_lt (Nat.lt_succ_self _), Nat.ne_of_gt hlS⟩
        have hval : ∀ (i : Nat) (v : Value), items[i]? = some v → ∃ t, v = .str ((fun i => ns.getD i Str.empty) i) t := fun i v hv =>
          SS.strs_at hi i v (by rw [Array.getElem?_toList]; exact hv)
        refine loopStrs ((Walks.list hh3 _ l hneI items).toS) s.heap.objs.size
          hSf (fun i => ns.getD i Str.empty) hval hb (items.size - 0) 0 _ (by omega) (Nat.zero_le _)
          ⟨⟨_, Heap.get?_push_size _ rfl, rfl, rfl⟩, (hl1.push _)⟩ ?hS0 ?hR
        case hS0 =>
          have hget : ((s.heap.push { cls := .type "set", dict := none, data := .set #[] 0 (.fresh 0 0 led) }).push { cls := .type "list_iterator", data := .fields #[.ref l, .int 0 0] }).get? s.heap.objs.size
              = some { cls := .type "set", dict := none, data := .set #[] 0 (.fresh 0 0 led) } := Heap.get?_push_of_some _ hS
          exact PyProof.Rows.SetOf_congr ((PyProof.Rows.setObjOf_fresh (knd := PySem.strKind prog w) led).setOf hget (by unfold scanBound; omega)) (fun _ => rfl) rfl
        case hR =>
          intro s' hm hS'
          obtain ⟨h', g', d', tk', os'⟩ := s'
          have eg : g' = s.gens := hm.gens
          have ed : d' = s.drawn := hm.drawn
          have eo : os' = s.os := hm.os
          subst eg; subst ed; subst eo
          show wpAny _ _ _ _ _ _
          refine wpAny_pure ?_
          show wpAny _ _ (ret Value.none) _ _ _
          refine wpAny_pure ⟨rfl, h', tk', rfl, hS', fun b o hb e => ?_⟩
          have hb1 : b ≠ s.heap.objs.size := Nat.ne_of_lt hb
          have hb2 : b ≠ (s.heap.push { cls := .type "set", dict := none, data := .set #[] 0 (.fresh 0 0 led) }).objs.size := by
            rw [Heap.size_push]; exact Nat.ne_of_lt (Nat.lt_succ_of_lt hb)
          exact hm.heap b o (by simp only [List.mem_cons, List.mem_singleton, List.not_mem_nil, or_false, not_or]; exact ⟨hb1, hb2⟩) (Heap.get?_push_of_some _ (Heap.get?_push_of_some _ e))

      · cases r₂ with
        | error e => exact hr₂
        | ok fl₂ =>
          cases fl₂ with
          | ret r =>
            obtain ⟨rfl, h', tk, rfl, hS', hk'⟩ := hr₂
            repeat (any_goals (first | assumption | wp_step))
            exact h _ _ hS' hk'
          | _ => exact hr₂.elim
    | _ => exact hr.elim
end
def dstS (zs : List Str) : List Str := zs.foldl stepS []
theorem metS_eq (zs : List Str) : metS (fun i => zs.getD i Str.empty) zs.length = dstS zs := by
  unfold metS dstS
  congr 1
  apply List.ext_getElem (by simp)
  intro i h1 h2
  simp at h1
  simp [List.getD_eq_getElem?_getD, List.getElem?_eq_getElem h1]
def tLenSetS (K : PySem.W.Frag) (ta : TE) : TE := fun σ H Q => ta σ H fun x H1 => ∃ (l : Addr) (ns : List Str), x = .ref l ∧ SqL K H1 l (ns.map V.str) ∧ ns.length ≤ 4000 ∧ Q (.int ((dstS ns).length : Nat)) H1
theorem pe_lenSetS {X : Cx} {a : Expr} {ta : TE} {p p2 q pos : Pos} (hg : Gl X "len") (hm : X.mg "len" = none) (hg2 : Gl X "set") (hm2 : X.mg "set" = none) (ha : PE X a ta) (hc : X.calm = true := by rfl)
    (na : starEach [a] X.env = (false, eval a X.env) :: starEach [] X.env := by rfl) : PE X (.Call (.Name "len" p) [.Call (.Name "set" p2) [a] [] q] [] pos) (tLenSetS X.K ta) := by
  refine ⟨fun pins s σ H Q I h => ?_⟩
  refine Call_ (ld_blt I hg hm boot_len ?_)
  refine PyProof.Rows.callWith_builtin1 (PyProof.Rows.args_cons ?_ rfl) rfl rfl
  refine Call_ (ld_blt I hg2 hm2 boot_set ?_)
  refine PyProof.Rows.callWith_type1 (PyProof.Rows.args_cons (thn (ha.run pins s σ H _ I h) fun v s1 ⟨x, H1, I1, r1, q1⟩ => PyProof.Rows.args_nil ?_) na) na rfl
  obtain ⟨l, ns, rfl, hq, hl, q1⟩ := q1
  cases r1
  obtain ⟨its, r, pl, hz⟩ := I1.list hq
  have hlen : its.toArray.size = ns.length := by rw [List.size_toArray, ← r.length, List.length_map]
  refine call_set_strs (I1.ok.hd hc) pl.isList (by simpa using strsAre_of r) (by rw [hlen]; unfold scanBound; omega) fun h' tk hS hk => ?_
  refine PyProof.Rows.args_nil ?_
  rw [hlen, metS_eq] at hS
  obtain ⟨o, es, ep, t, ho, hex, hd, _, _, _, hf, hn⟩ := hS
  have I2 : Inv X pins σ H1 { s1 with heap := h', toks := tk } := I1.kept fun b o e => hk b o (Heap.lt_size e) e
  have := metS_le (fun i => ns.getD i Str.empty) ns.length
  rw [metS_eq] at this
  exact call_len_set ho hex hd hf (by rw [hn] <;> omega) ⟨.int (dstS ns).length, H1, I2.tok _, ⟨_, by rw [hn]⟩, q1⟩
def kLenSet : D → Option R
  | .lst ds => (strsOf ds).bind fun zs => if zs.length ≤ 4000 then some (.d (.int ((dstS zs).length : Nat))) else none
  | _ => none
theorem pe_lenSetD {X : Cx} {W : WX} {J : Lk} {a : Expr} {fa : DE} {p p2 q pos : Pos} (hg : Gl X "len") (hm : X.mg "len" = none) (hg2 : Gl X "set") (hm2 : X.mg "set" = none) (ha : PE X a (LE (kj J X) X.mg W fa)) (hc : X.calm = true := by rfl)
    (na : starEach [a] X.env = (false, eval a X.env) :: starEach [] X.env := by rfl) : PE X (.Call (.Name "len" p) [.Call (.Name "set" p2) [a] [] q] [] pos) (LE (kj J X) X.mg W (o1 fa kLenSet)) :=
  PE.imp (pe_lenSetS hg hm hg2 hm2 ha hc na) fun σ H Q h => LE.one h fun x res v ρ F H rs hx e q => by
    unfold kLenSet at e
    split at e
    · rename_i ds
      cases z : strsOf ds with
      | none => rw [z] at e; cases e
      | some zs =>
        rw [z] at e
        have e : (if zs.length ≤ 4000 then some (R.d (.int ((dstS zs).length : Nat))) else none) = some res := e
        split at e
        · cases e
          obtain ⟨a, ys, rfl, ha, ra⟩ := hx.lst rs.sub
          have hv := ra.strsOf z
          subst hv
          exact ⟨a, zs, rfl, SqL.of ha, by assumption, q.dat rs (.int _)⟩
        · cases e
    · cases e
end Dn
end

section
set_option Elab.async false
set_option linter.all false
set_option maxRecDepth 100000
set_option maxHeartbeats 4000000
/-! Dn: own exceptions by what the written part says; defaults; sorted of a dict. -/
namespace Dn
open PySem PySem.Spec PyProof.Rows L2
/-! ### a class of exceptions -/
def oexB (K : PySem.W.Frag) (C : Addr) : Bool := (match K.lookup C with
  | some ⟨.type "type", _, .cls cd, sl⟩ => (match cd.mro, sl.toList with
    | .ref C' :: bm, [_, _, _, _, some (.builtin n), _] => C' == C && (n == "ValueError.__new__" && (!cd.hasDel && (cd.hasDict && PySem.HandSPX.refsVE bm)))
    | _, _ => false)
  | _ => false) && (decide (PySem.W.findIn K (.ref C) "__setattr__" = some (some (.builtin "object.__setattr__"))) && (decide (PySem.W.subIn K (.ref C) (.type "BaseException") = some true) && (decide (PySem.W.typeIn K (.ref C) = some (.type "type")) && PySem.W.keepIn K (.ref C))))
theorem oexB_ok {K : PySem.W.Frag} {C : Addr} (h : oexB K C = true) : OexC K C := by
  obtain ⟨q, h⟩ := Bool.and_eq_true_iff.mp h
  obtain ⟨h2, h⟩ := Bool.and_eq_true_iff.mp h
  obtain ⟨h3, h⟩ := Bool.and_eq_true_iff.mp h
  obtain ⟨h4, h5⟩ := Bool.and_eq_true_iff.mp h
  refine ⟨?_, of_decide_eq_true h2, of_decide_eq_true h3, of_decide_eq_true h4, h5⟩
  split at q
  · rename_i dd cd sl ho
    split at q
    · rename_i C' bm k0 k1 k2 k3 n k5 hm hs
      simp only [Bool.and_eq_true, beq_iff_eq, Bool.not_eq_true'] at q
      obtain ⟨rfl, rfl, hdel, hdict, hv⟩ := q
      obtain ⟨nm, bs, mro, ns, qn, hd, sn, sub, ab, col, del⟩ := cd
      dsimp only at hm hdel hdict
      subst hm hdel hdict
      have hsl : sl = #[k0, k1, k2, k3, some (.builtin "ValueError.__new__"), k5] := by
        obtain ⟨l⟩ := sl
        simp only at hs
        rw [hs]
      subst hsl
      exact ⟨nm, qn, ns, bs, bm, sn, sub, ab, col, dd, k0, k1, k2, k3, k5, ho, hv⟩
    · cases q
  · cases q
/-- what is looked at for a class x with the fields fs and its own __init__ -/
def exCB (K : PySem.W.Frag) (x : Str) (fs : List Str) : Bool := oexB K (He.ga K x) && (decide (PySem.W.findIn K (.ref (He.ga K x)) "__init__" = some (some (.ref (He.fAd K (x, some "__init__"))))) && (decide (PySem.W.typeIn K (.ref (He.fAd K (x, some "__init__"))) = some (.type "function")) &&
  fs.all fun f => decide (PySem.W.findIn K (.ref (He.ga K x)) f = some none)))
section
variable {P : Program} {w : World} {K : PySem.W.Frag} {mg : MG} {base : Heap} {k : Nat} {x : Str} {fs : List Str} {fd : FuncData} {ps : List Str}
theorem exC0 (h : exCB K x [] = true) (g : mg x = some (.ref (He.ga K x))) (b : Binds K fd ps []) (F : FnOk P w K mg base CX0 k (He.fAd K (x, some "__init__")) fd ps (spI0 K (He.ga K x))) : ExC P w K mg base k x [] := by
  obtain ⟨h1, h⟩ := Bool.and_eq_true_iff.mp h
  obtain ⟨h2, h⟩ := Bool.and_eq_true_iff.mp h
  obtain ⟨h3, h4⟩ := Bool.and_eq_true_iff.mp h
  exact ⟨_, _, fd, ps, _, g, oexB_ok h1, of_decide_eq_true h2, of_decide_eq_true h3, fun f hf => by simp at hf, b, F, rfl⟩
theorem exC1 {f : Str} (h : exCB K x [f] = true) (g : mg x = some (.ref (He.ga K x))) (b : Binds K fd ps []) (F : FnOk P w K mg base CX0 k (He.fAd K (x, some "__init__")) fd ps (spI1 K (He.ga K x) f)) : ExC P w K mg base k x [f] := by
  obtain ⟨h1, h⟩ := Bool.and_eq_true_iff.mp h
  obtain ⟨h2, h⟩ := Bool.and_eq_true_iff.mp h
  obtain ⟨h3, h4⟩ := Bool.and_eq_true_iff.mp h
  exact ⟨_, _, fd, ps, _, g, oexB_ok h1, of_decide_eq_true h2, of_decide_eq_true h3, fun f hf => of_decide_eq_true (List.all_eq_true.mp h4 f hf), b, F, rfl⟩
theorem exC2 {f f2 : Str} (h : exCB K x [f, f2] = true) (g : mg x = some (.ref (He.ga K x))) (b : Binds K fd ps []) (F : FnOk P w K mg base CX0 k (He.fAd K (x, some "__init__")) fd ps (spI2 K (He.ga K x) f f2)) : ExC P w K mg base k x [f, f2] := by
  obtain ⟨h1, h⟩ := Bool.and_eq_true_iff.mp h
  obtain ⟨h2, h⟩ := Bool.and_eq_true_iff.mp h
  obtain ⟨h3, h4⟩ := Bool.and_eq_true_iff.mp h
  exact ⟨_, _, fd, ps, _, g, oexB_ok h1, of_decide_eq_true h2, of_decide_eq_true h3, fun f hf => of_decide_eq_true (List.all_eq_true.mp h4 f hf), b, F, rfl⟩
end
/-! ### defaults -/
/-- the def of the name nm is there, of the parameters ps, the last of them with the defaults dd, and is fn -/
structure HasD (P : Program) (w : World) (K : PySem.W.Frag) (mg : MG) (base : Heap) (k : Nat) (nm : Str) (ps : List Str) (n : Nat) (dd : List D) (fn : FD) : Prop where
  ex : ∃ fA fd dus dvs, mg nm = some (.ref fA) ∧ PySem.W.keepIn K (.ref fA) = true ∧ Vals dvs dus ∧ (∀ F, Reps (kn K) F dd dvs) ∧ Binds K fd ps dus ∧ FnG P w K mg base k fA fd ps (spD (kn K) mg n fn)
section
variable {P : Program} {w : World} {K : PySem.W.Frag} {mg : MG} {W : WX} {base : Heap} {j k : Nat} {nm : Str} {ps : List Str} {n : Nat} {fn : FD} {dd : List D}
theorem HasD.mono (h : HasD P w K mg base j nm ps n dd fn) (hk : j ≤ k) : HasD P w K mg base k nm ps n dd fn := by
  obtain ⟨fA, fd, dus, dvs, a, b, c, d, e, f⟩ := h.ex
  exact ⟨fA, fd, dus, dvs, a, b, c, d, e, f.mono hk⟩
theorem hasD_of {qual : Str} {params : Arguments} {body : List Stmt} {scope : Scope} {ds : List V} {kws : List (Str × V)} {dvs : List V} {fA : Addr} {fd : FuncData} (F : FunD K nm qual params body scope ds kws fA fd) (g : mg nm = some (.ref fA)) (b : ∃ dus, Vals dvs dus ∧ Binds K fd ps dus) (r : ∀ F, Reps (kn K) F dd dvs)
    (h : FnG P w K mg base k fA fd ps (spD (kn K) mg n fn)) : HasD P w K mg base k nm ps n dd fn := by
  obtain ⟨dus, b1, b2⟩ := b
  exact ⟨fA, fd, dus, dvs, g, F.kp, b1, r, b2, h⟩
section
variable {X : Cx} {e : Expr} {es : List Expr} {fs : List DE} {p pos : Pos}
theorem pe_usD (Hf : HasD X.prog X.w X.K X.mg X.base k nm ps n dd fn) (hr : Room k X.A) (hG : X.A.guards = some []) (tk : Takes X W) (hg : Gl X nm) (ha : PA X (e :: es) (LA (kj Lk.no X) X.mg W fs)) (hn : fs.length + dd.length = n := by rfl) (hdb : (nm == ("__debug__" : Str)) = false := by decide)
    (he : starEach (e :: es) X.env = (false, eval e X.env) :: starEach es X.env := by rfl) (hpl : (backTo pos (starEach es X.env)).any (·.1) = false := by rfl) : PE X (.Call (.Name nm p) (e :: es) [] pos) (LE (kj Lk.no X) X.mg W (dCall fn fs dd)) := by
  obtain ⟨fA, fd, dus, dvs, hm, hk, rv, rd, hb, Fn⟩ := Hf.ex
  exact pe_fnD Fn hr hG tk hg hm hk hb rv rd hn ha hdb he hpl
end
end
/-! ### sorted of an empty dict -/
def kSortE : List D → Option R
  | [.dK []] => some (.o (.lst []))
  | _ => none
theorem cf_sortE {X : Cx} (hc : X.calm = true) : CallF X (.builtin "sorted") kSortE := ⟨_, call_sortedD hc, by
  intro J σ xs res vs ρ F H rs pk e Q q
  unfold kSortE at e
  split at e
  · cases e
    obtain ⟨v, rfl, h⟩ := pk.one
    obtain ⟨a, vs, rfl, ha, ra⟩ := h.dK rs.sub
    have : vs = [] := by
      have := ra.1
      simpa using this
    subst this
    refine ⟨a, [], [], rfl, .inl ha, rfl, by decide, fun ys p hp _ hn => ?_⟩
    have : ys = [] := hp.eq_nil
    subst this
    exact FinR.lst q rs .nil p hn
  · cases e⟩
/-! ### is True -/
def kIsT (b : Bool) : D → D → Option R
  | .bl c, .bl d => some (.d (.bl (if b then decide (c = d) else !decide (c = d))))
  | _, _ => none
theorem cIsT {X : Cx} : CmpF X .Is (kIsT true) (fun x y H Q => ∃ a b, x = .bl a ∧ y = .bl b ∧ Q (.bl (decide (a = b))) H) := ⟨op_is_bl, fun x y res v u ρ F H rs hx hy e Q q => by
  unfold kIsT at e
  split at e
  · cases e
    cases hx.bl
    cases hy.bl
    exact ⟨_, _, rfl, rfl, q.dat rs (.bl _)⟩
  · cases e⟩
theorem cIsTN {X : Cx} : CmpF X .IsNot (kIsT false) (fun x y H Q => ∃ a b, x = .bl a ∧ y = .bl b ∧ Q (.bl (!decide (a = b))) H) := ⟨op_isnot_bl, fun x y res v u ρ F H rs hx hy e Q q => by
  unfold kIsT at e
  split at e
  · cases e
    cases hx.bl
    cases hy.bl
    exact ⟨_, _, rfl, rfl, q.dat rs (.bl _)⟩
  · cases e⟩
/-! ### a Hook that looks at the statics too -/
def asY (g : Addr → Option Obj) (n : Nat) : List Addr := cStatics :: He.asD g n
abbrev AlY : Type := He.AlT × Bool
def obsY (n : Nat) (fa : List He.Fa) (fn : List He.DefD) (ts : List He.Tab) (ex : PySem.W.Frag → Bool) (g : Addr → Option Obj) : AlY := (He.obsT fa fn ts (He.frT g (asY g n)), ex (He.frT g (asY g n)))
def valY (fn : List He.DefD) (ts : List He.Tab) (w : World) : AlY := (He.valT fn ts w, true)
structure SaysY (fa : List He.Fa) (fn : List He.DefD) (ts : List He.Tab) (ex : PySem.W.Frag → Bool) (w : World) (K : PySem.W.Frag) : Prop where
  t : He.SaysT fa fn ts w K
  more : ex K = true
def hookY (n : Nat) (fa : List He.Fa) (fn : List He.DefD) (ts : List He.Tab) (ex : PySem.W.Frag → Bool) : PySem.W.Hook where
  α := AlY
  obs := fun s => obsY n fa fn ts ex s.heap.get?
  val := fun w => valY fn ts w
  says := fun w h => ∃ K : PySem.W.Frag, K.In h ∧ SaysY fa fn ts ex w K
  of := fun _ _ e => ⟨_, He.frT_in, ⟨congrArg (fun z : AlY => z.1) e, congrArg (fun z : AlY => z.2) e⟩⟩
  keeps := fun _ _ _ ⟨K, hK, c⟩ k => ⟨K, PySem.W.Frag.In.keeps hK k, c⟩
theorem obsY_eq {n : Nat} {fa : List He.Fa} {fn : List He.DefD} {ts : List He.Tab} {ex : PySem.W.Frag → Bool} {g : Addr → Option Obj} {s : Shared} (h : ∀ a, g a = s.heap.get? a) : obsY n fa fn ts ex g = (hookY n fa fn ts ex).obs s := by
  have e : g = s.heap.get? := funext h
  rw [e] <;> rfl
end Dn
end

section
set_option Elab.async false
set_option linter.all false
set_option maxRecDepth 100000
set_option maxHeartbeats 4000000
/-! Dn: in for tuples of any data; conditions of what is new. -/
namespace Dn
open PySem PySem.Spec PyProof.Rows L2
def inT (x : D) (ys : List D) : Option Bool := if isPy x = true ∧ isPys ys = true ∧ SeqAt.shaped (toPy x) = true ∧ SeqAt.shaped (.tuple (toPys ys)) = true then some ((toPys ys).any fun z => PyData.eqv z (toPy x)) else none
def kIn3 (x y : D) : Option R := match y with
  | .tup ys => (inT x ys).map fun b => .d (.bl b)
  | y => kIn2 x y
def kNi3 (x y : D) : Option R := match y with
  | .tup ys => (inT x ys).map fun b => .d (.bl !b)
  | y => kNi2 x y
def rInT (K : PySem.W.Frag) : R2 := fun x y H Q => ∃ d ds, Dp K H x d ∧ Dp K H y (.tuple ds) ∧ SeqAt.shaped d = true ∧ SeqAt.shaped (.tuple ds) = true ∧ Q (.bl (ds.any fun z => PyData.eqv z d)) H
def rNiT (K : PySem.W.Frag) : R2 := fun x y H Q => ∃ d ds, Dp K H x d ∧ Dp K H y (.tuple ds) ∧ SeqAt.shaped d = true ∧ SeqAt.shaped (.tuple ds) = true ∧ Q (.bl (!ds.any fun z => PyData.eqv z d)) H
theorem room_in_tuple {A : Around} {d : PyData} {ds : List PyData} (h : SeqAt.shaped (.tuple ds) = true) (hu : A.units + 65 < cLine) : A.units + 1 + min (PyData.depthAll ds) d.depth < cLine := by
  have := SeqAt.depth_of_shaped h
  have e : (PyData.tuple ds).depth = PyData.depthAll ds + 1 := by first | rfl | simp [PyData.depth] | (simp [PyData.depth]; omega)
  omega
theorem op_inT {X : Cx} (hu : X.A.units + 65 < cLine) : OpR X (compareOp .In) (rInT X.K) := by
  intro pins s σ H x y v u Q I rx ry h
  obtain ⟨d, ds, hd, he, sd, se, q⟩ := h
  obtain ⟨as, r1⟩ := Dp.reads I d x v hd rx
  obtain ⟨bs, r2⟩ := Dp.reads I (.tuple ds) y u he ry
  exact SeqAt.in_tuple_reads r2 r1 (SeqAt.canLay_of_shaped se) (SeqAt.canLay_of_shaped sd) (room_in_tuple se hu) ⟨.bl _, H, I, rfl, q⟩
theorem op_niT {X : Cx} (hu : X.A.units + 65 < cLine) : OpR X (compareOp .NotIn) (rNiT X.K) := by
  intro pins s σ H x y v u Q I rx ry h
  obtain ⟨d, ds, hd, he, sd, se, q⟩ := h
  obtain ⟨as, r1⟩ := Dp.reads I d x v hd rx
  obtain ⟨bs, r2⟩ := Dp.reads I (.tuple ds) y u he ry
  exact SeqAt.notIn_tuple_reads r2 r1 (SeqAt.canLay_of_shaped se) (SeqAt.canLay_of_shaped sd) (room_in_tuple se hu) ⟨.bl _, H, I, rfl, q⟩
theorem cIn3 {X : Cx} (hu : X.A.units + 65 < cLine) : CmpF X .In kIn3 (fun x y H Q => rInT X.K x y H Q ∨ (rIn3 X.K x y H Q ∨ ∃ a o, y = .ref a ∧ DGet H a x o ∧ Q (.bl o.isSome) H)) := ⟨OpR.or (op_inT hu) (cIn2 hu).rule, fun x y res v u ρ F H rs hx hy e Q q => by
  unfold kIn3 at e
  split at e
  · unfold inT at e
    split at e
    · rename_i hc
      cases e
      exact .inl ⟨_, _, hx.dp rs.sub hc.1, hy.dp rs.sub hc.2.1, hc.2.2.1, hc.2.2.2, q.dat rs (.bl _)⟩
    · cases e
  · exact .inr ((cIn2 hu).fn x _ res v u ρ F H rs hx hy e Q q)⟩
theorem cNi3 {X : Cx} (hu : X.A.units + 65 < cLine) : CmpF X .NotIn kNi3 (fun x y H Q => rNiT X.K x y H Q ∨ (rNi3 X.K x y H Q ∨ ∃ a o, y = .ref a ∧ DGet H a x o ∧ Q (.bl (!o.isSome)) H)) := ⟨OpR.or (op_niT hu) (cNi2 hu).rule, fun x y res v u ρ F H rs hx hy e Q q => by
  unfold kNi3 at e
  split at e
  · unfold inT at e
    split at e
    · rename_i hc
      cases e
      exact .inl ⟨_, _, hx.dp rs.sub hc.1, hy.dp rs.sub hc.2.1, hc.2.2.1, hc.2.2.2, q.dat rs (.bl _)⟩
    · cases e
  · exact .inr ((cNi2 hu).fn x _ res v u ρ F H rs hx hy e Q q)⟩
/-! ### conditions -/
section
variable {ρ : Env} {f fa fb : DE} {x y : D} {xs ys : List D} {Q : R → Env → Prop} {E : Exn → Env → Prop} {i j : Int} {a b z : Str} {P : R → Prop} {k : Nat}
@[simp] theorem k_ix2_l : kIx2 (.lst xs) y = kIx (.lst xs) y := rfl
@[simp] theorem k_ix2_t : kIx2 (.tup xs) y = kIx (.tup xs) y := rfl
@[simp] theorem k_ix2_s : kIx2 (.str z) y = kIx (.str z) y := rfl
@[simp] theorem k_ix2_r {ns : List Int} : kIx2 (.src ns) y = kIx (.src ns) y := rfl
@[simp] theorem k_in3_l : wP (kIn3 x (.lst ys)) P ↔ wP (inD x (.lst ys)) fun b => P (.d (.bl b)) := wP_map
@[simp] theorem k_ni3_l : wP (kNi3 x (.lst ys)) P ↔ wP (inD x (.lst ys)) fun b => P (.d (.bl !b)) := wP_map
@[simp] theorem k_in3_t : wP (kIn3 x (.tup ys)) P ↔ wP (inT x ys) fun b => P (.d (.bl b)) := wP_map
@[simp] theorem k_ni3_t : wP (kNi3 x (.tup ys)) P ↔ wP (inT x ys) fun b => P (.d (.bl !b)) := wP_map
/-- a Boolean result -/
def wIB (a : R) (T : Bool → Prop) : Prop := match a with
  | .d (.bl b) => T b
  | _ => False
@[simp] theorem wIB_b {b : Bool} {T : Bool → Prop} : wIB (.d (.bl b)) T ↔ T b := Iff.rfl
theorem wIB_eq {a : R} {T : Bool → Prop} : wIB a T ↔ wP (isB a) T := by
  cases a with
  | d x => cases x <;> rfl
  | o _ => rfl
  | s _ => rfl
@[simp] theorem wE_xAnd : wE (xAnd fa fb) ρ Q E ↔ wE fa ρ (fun a ρ1 => wIB a fun b => if b = true then wE fb ρ1 Q E else Q (.d (.bl false)) ρ1) E := by
  unfold wE xAnd bE
  cases fa ρ with
  | none => rfl
  | some w =>
    obtain ⟨r, ρ1⟩ := w
    cases r with
    | error x => rfl
    | ok a =>
      dsimp only
      rw [wIB_eq]
      cases isB a with
      | none => rfl
      | some b => cases b <;> rfl
@[simp] theorem wE_xDK : wE xDK ρ Q E ↔ Q (.o (.dK [])) ρ := by unfold wE; rfl
@[simp] theorem wE_xDT : wE xDT ρ Q E ↔ Q (.o (.dT [])) ρ := by unfold wE; rfl
@[simp] theorem wE_xDisp {l : List (Str × D)} : wE (xDisp l) ρ Q E ↔ Q (.o (.dK (l.map fun p => (.inr p.1, p.2)))) ρ := by unfold wE; rfl
@[simp] theorem k_sortE : wP (kSortE [.dK []]) P ↔ P (.o (.lst [])) := Iff.rfl
@[simp] theorem k_isT {b c d : Bool} : wP (kIsT b (.bl c) (.bl d)) P ↔ P (.d (.bl (if b then decide (c = d) else !decide (c = d)))) := Iff.rfl
theorem k_isi {Ts : List String} (h : Ts.all okTy = true) : wP (kIsi Ts x) P ↔ P (.d (.bl (Ts.any fun T => isTy (tyN x) T))) := by
  unfold kIsi
  rw [if_pos h]
  rfl
@[simp] theorem k_lenS : wP (kLenSet (.lst xs)) P ↔ wP (strsOf xs) fun zs => zs.length ≤ 4000 ∧ P (.d (.int ((dstS zs).length : Nat))) := by
  show wP ((strsOf xs).bind fun zs => if zs.length ≤ 4000 then some (R.d (.int ((dstS zs).length : Nat))) else none) P ↔ _
  cases strsOf xs with
  | none => rfl
  | some zs =>
    show wP (if zs.length ≤ 4000 then some (R.d (.int ((dstS zs).length : Nat))) else none) P ↔ _
    by_cases h : zs.length ≤ 4000 <;> simp [h]
def wX (s : Option S) (P : Exn → Prop) : Prop := match s with
  | some (.x e) => P e
  | _ => False
@[simp] theorem wX_x {e : Exn} {P : Exn → Prop} : wX (some (.x e)) P ↔ P e := Iff.rfl
@[simp] theorem wE_fld {cs : List Str} {n : Str} : wE (xFld cs k n) ρ Q E ↔ wX (gt ρ k) fun e => cs.contains e.cls = true ∧ wP (e.fs.lookup n) fun x => Q (.d x) ρ := by
  unfold wE xFld wX
  cases gt ρ k with
  | none => rfl
  | some s =>
    cases s with
    | d _ => rfl
    | o _ => rfl
    | x e =>
      dsimp only
      by_cases h : cs.contains e.cls = true
      · rw [if_pos h]
        cases e.fs.lookup n with
        | none => exact ⟨fun z => z.elim, fun z => z.2.elim⟩
        | some x => exact ⟨fun z => ⟨h, z⟩, fun z => z.2⟩
      · rw [if_neg h]
        exact ⟨fun z => z.elim, fun z => absurd z.1 h⟩
@[simp] theorem wE_isE {cs : List Str} {rel : Str → Str → Bool} {zs : List Str} : wE (xIsE cs rel k zs) ρ Q E ↔ wX (gt ρ k) fun e => cs.contains e.cls = true ∧ Q (.d (.bl (zs.any (rel e.cls)))) ρ := by
  unfold wE xIsE wX
  cases gt ρ k with
  | none => rfl
  | some s =>
    cases s with
    | d _ => rfl
    | o _ => rfl
    | x e =>
      dsimp only
      by_cases h : cs.contains e.cls = true
      · rw [if_pos h]
        exact ⟨fun z => ⟨h, z⟩, fun z => z.2⟩
      · rw [if_neg h]
        exact ⟨fun z => z.elim, fun z => absurd z.1 h⟩
/-! displays with stars -/
section
variable {fs : List (Bool × DE)} {T : List R → Env → Prop}
@[simp] theorem wE_S0 : wE (eS []) ρ T E ↔ T [] ρ := by unfold wE; rfl
@[simp] theorem wE_Sf : wE (eS ((false, f) :: fs)) ρ T E ↔ wE f ρ (fun a ρ1 => wE (eS fs) ρ1 (fun as => T (nrm a :: as)) E) E := by
  show wE (bE f fun a => bE (eS fs) fun as => rE (nrm a :: as)) ρ T E ↔ _
  simp only [wE_b, wE_r]
@[simp] theorem wE_St : wE (eS ((true, f) :: fs)) ρ T E ↔ wE f ρ (fun a ρ1 => wP (pk ρ1 (nrm a)) fun x => wP (seqOf x) fun ds => wE (eS fs) ρ1 (fun as => T (ds.map R.d ++ as)) E) E := by
  have h0 : eS ((true, f) :: fs) ρ = bE f (fun a => fun ρ => match (pk ρ (nrm a)).bind seqR with
    | some bs => bE (eS fs) (fun as => rE (bs ++ as)) ρ
    | none => none) ρ := rfl
  unfold wE
  rw [h0]
  unfold bE
  cases f ρ with
  | none => rfl
  | some w =>
    obtain ⟨r, ρ1⟩ := w
    cases r with
    | error x => rfl
    | ok a =>
      dsimp only
      cases h : pk ρ1 (nrm a) with
      | none => rfl
      | some x =>
        simp only [wP_some, Option.bind_some]
        unfold seqR
        cases seqOf x with
        | none => rfl
        | some ds =>
          simp only [wP_some, Option.map_some]
          cases eS fs ρ1 with
          | none => rfl
          | some w =>
            obtain ⟨r, ρ2⟩ := w
            cases r <;> rfl
@[simp] theorem wE_lstS : wE (xLstS fs) ρ Q E ↔ wE (eS fs) ρ (fun as ρ1 => wP (toDs ρ1 as) fun p => p.1.length ≤ sizeLine ∧ Q (.o (.lst p.1)) p.2) E := by
  unfold wE xLstS bE
  cases eS fs ρ with
  | none => rfl
  | some w =>
    obtain ⟨r, ρ1⟩ := w
    cases r with
    | error x => rfl
    | ok as =>
      dsimp only
      cases toDs ρ1 as with
      | none => rfl
      | some w =>
        obtain ⟨xs, ρ2⟩ := w
        simp only [wP_some]
        by_cases h : xs.length ≤ sizeLine
        · rw [if_pos h]
          exact ⟨fun z => ⟨h, z⟩, fun z => z.2⟩
        · rw [if_neg h]
          exact ⟨fun z => z.elim, fun z => absurd z.1 h⟩
theorem toDs_d {as : List D} : toDs ρ (as.map R.d) = some (as, ρ) := by
  induction as with
  | nil => rfl
  | cons d r ih =>
    show (match toD ρ (R.d d) with
    | some (x, ρ1) => (match toDs ρ1 (r.map R.d) with
      | some (xs, ρ2) => some (x :: xs, ρ2)
      | none => none)
    | none => none) = _
    rw [toD_d]
    dsimp only
    rw [ih]
end
/-! statements -/
section
variable {T : Ctl → Env → Prop} {g : DS} {fs : List DE}
@[simp] theorem wS_raise {n : Str} {ns : List Str} : wS (sRaise n ns fs) ρ T ↔ wE (eA fs) ρ (fun as ρ1 => wP (toDs ρ1 as) fun p => T (.ex ⟨n, exFs ns p.1⟩) p.2) fun x ρ1 => T (.ex x) ρ1 := by
  unfold wS sRaise wE
  cases eA fs ρ with
  | none => rfl
  | some w =>
    obtain ⟨r, ρ1⟩ := w
    cases r with
    | error x => rfl
    | ok as =>
      dsimp only
      cases toDs ρ1 as with
      | none => rfl
      | some w => rfl
def wT (c : Ctl) (ρ : Env) (K : Exn → Prop) (T : Ctl → Env → Prop) : Prop := match c with
  | .ex x => K x
  | c => T c ρ
@[simp] theorem wT_nx {K : Exn → Prop} : wT .nx ρ K T ↔ T .nx ρ := Iff.rfl
@[simp] theorem wT_ex {K : Exn → Prop} {x : Exn} : wT (.ex x) ρ K T ↔ K x := Iff.rfl
@[simp] theorem wT_rt {K : Exn → Prop} {r : R} : wT (.rt r) ρ K T ↔ T (.rt r) ρ := Iff.rfl
@[simp] theorem wT_bk {K : Exn → Prop} : wT .bk ρ K T ↔ T .bk ρ := Iff.rfl
@[simp] theorem wT_ct {K : Exn → Prop} : wT .ct ρ K T ↔ T .ct ρ := Iff.rfl
@[simp] theorem wS_try {cs : List Str} {rel : Str → Str → Bool} {hs : List HdD} : wS (sTry cs rel g hs) ρ T ↔ wS g ρ fun c ρ1 => wT c ρ1 (fun x => wS (hnd cs rel x hs) ρ1 T) T := by
  unfold wS sTry
  cases g ρ with
  | none => rfl
  | some w =>
    obtain ⟨c, ρ1⟩ := w
    cases c <;> rfl
@[simp] theorem wS_h0 {cs : List Str} {rel : Str → Str → Bool} {e : Exn} : wS (hnd cs rel e []) ρ T ↔ T (.ex e) ρ := by unfold wS; rfl
@[simp] theorem wS_h {cs : List Str} {rel : Str → Str → Bool} {e : Exn} {t : HdD} {r : List HdD} : wS (hnd cs rel e (t :: r)) ρ T ↔ cs.contains e.cls = true ∧ if t.1.any (rel e.cls) = true then wS (runH t e) ρ T else wS (hnd cs rel e r) ρ T := by
  have : hnd cs rel e (t :: r) ρ = (if cs.contains e.cls = true then (if t.1.any (rel e.cls) = true then runH t e ρ else hnd cs rel e r ρ) else none) := rfl
  unfold wS
  rw [this]
  by_cases h1 : cs.contains e.cls = true
  · rw [if_pos h1]
    by_cases h2 : t.1.any (rel e.cls) = true
    · rw [if_pos h2, if_pos h2]
      exact ⟨fun z => ⟨h1, z⟩, fun z => z.2⟩
    · rw [if_neg h2, if_neg h2]
      exact ⟨fun z => ⟨h1, z⟩, fun z => z.2⟩
  · rw [if_neg h1]
    exact ⟨fun z => z.elim, fun z => absurd z.1 h1⟩
def wNE (c : Ctl) (p : Prop) : Prop := match c with
  | .ex _ => False
  | _ => p
@[simp] theorem wNE_nx {p : Prop} : wNE .nx p ↔ p := Iff.rfl
@[simp] theorem wNE_rt {p : Prop} {r : R} : wNE (.rt r) p ↔ p := Iff.rfl
@[simp] theorem wNE_bk {p : Prop} : wNE .bk p ↔ p := Iff.rfl
@[simp] theorem wNE_ct {p : Prop} : wNE .ct p ↔ p := Iff.rfl
@[simp] theorem wS_r0 {zs : List Str} {e : Exn} : wS (runH (zs, none, g) e) ρ T ↔ wS g ρ fun c ρ1 => wNE c (T c ρ1) := by
  have h0 : runH (zs, none, g) e ρ = noEx (g ρ) := rfl
  unfold wS
  rw [h0]
  cases g ρ with
  | none => rfl
  | some w =>
    obtain ⟨c, ρ1⟩ := w
    cases c <;> rfl
def wNU (c : Ctl) (p : Prop) : Prop := match c with
  | .ex _ => False
  | .rt (.s _) => False
  | _ => p
@[simp] theorem wNU_nx {p : Prop} : wNU .nx p ↔ p := Iff.rfl
@[simp] theorem wNU_rd {p : Prop} {x : D} : wNU (.rt (.d x)) p ↔ p := Iff.rfl
@[simp] theorem wNU_ro {p : Prop} {x : D} : wNU (.rt (.o x)) p ↔ p := Iff.rfl
@[simp] theorem wNU_bk {p : Prop} : wNU .bk p ↔ p := Iff.rfl
@[simp] theorem wNU_ct {p : Prop} : wNU .ct p ↔ p := Iff.rfl
@[simp] theorem wS_r1 {zs : List Str} {e : Exn} : wS (runH (zs, some k, g) e) ρ T ↔ k < ρ.length ∧ wS g (ρ.set k (some (.x e))) fun c ρ1 => wNU c (T c (clr k ρ1)) := by
  have h0 : runH (zs, some k, g) e ρ = if k < ρ.length then unb k (g (ρ.set k (some (.x e)))) else none := rfl
  unfold wS
  rw [h0]
  by_cases h : k < ρ.length
  · rw [if_pos h]
    cases g (ρ.set k (some (.x e))) with
    | none => exact ⟨fun z => z.elim, fun z => z.2⟩
    | some w =>
      obtain ⟨c, ρ1⟩ := w
      cases c with
      | rt r => cases r <;> exact ⟨fun z => ⟨h, z⟩, fun z => z.2⟩
      | _ => exact ⟨fun z => ⟨h, z⟩, fun z => z.2⟩
  · rw [if_neg h]
    exact ⟨fun z => z.elim, fun z => absurd z.1 h⟩
@[simp] theorem clr_eq : clr k ρ = (ρ.map dropX).set k none := rfl
@[simp] theorem drop_d : dropX (some (.d x)) = some (.d x) := rfl
@[simp] theorem drop_o : dropX (some (.o x)) = some (.o x) := rfl
@[simp] theorem drop_x {e : Exn} : dropX (some (.x e)) = none := rfl
@[simp] theorem drop_n : dropX none = none := rfl
def wIn (s : Option S) (P : Int → Prop) : Prop := match s with
  | some (.d (.int i)) => P i
  | _ => False
@[simp] theorem wIn_i {P : Int → Prop} : wIn (some (.d (.int i))) P ↔ P i := Iff.rfl
@[simp] theorem wS_aug {o : Int → Int → Int} : wS (sAug k f o) ρ T ↔ wIn (gt ρ k) fun a => wE f ρ (fun b ρ1 => wP (pk ρ1 (nrm b)) fun y => wI (.d y) fun b => k < ρ1.length ∧ T .nx (ρ1.set k (some (.d (.int (o a b)))))) fun x ρ1 => T (.ex x) ρ1 := by
  unfold wS sAug wIn
  cases gt ρ k with
  | none => rfl
  | some s =>
    cases s with
    | o _ => rfl
    | x _ => rfl
    | d y =>
      cases y with
      | int a =>
        dsimp only
        unfold bS wE
        cases f ρ with
        | none => rfl
        | some w =>
          obtain ⟨r, ρ1⟩ := w
          cases r with
          | error x => rfl
          | ok b =>
            dsimp only
            cases pk ρ1 (nrm b) with
            | none => rfl
            | some y =>
              simp only [wP_some]
              cases y with
              | int c =>
                simp only [wI_int]
                by_cases h : k < ρ1.length
                · rw [if_pos h]
                  exact ⟨fun z => ⟨h, z⟩, fun z => z.2⟩
                · rw [if_neg h]
                  exact ⟨fun z => z.elim, fun z => absurd z.1 h⟩
              | _ => rfl
      | _ => rfl
def wOo (s : Option S) (P : D → Prop) : Prop := match s with
  | some (.o y) => P y
  | _ => False
@[simp] theorem wOo_o {P : D → Prop} : wOo (some (.o y)) P ↔ P y := Iff.rfl
@[simp] theorem wS_st2 {fv fo fi : DE} : wS (sSt2 fv fo fi) ρ T ↔ wE fv ρ (fun a ρ1 => wE fo ρ1 (fun o ρ2 => wE fi ρ2 (fun j ρ3 => wP (toD ρ3 (nrm a)) fun p => wP (pk p.2 (nrm j)) fun k => wOw o fun s => wOo (gt p.2 s) fun y => wP (put2 y p.1 k) fun z => T .nx (p.2.set s (some (.o z)))) fun x ρ1 => T (.ex x) ρ1) fun x ρ1 => T (.ex x) ρ1) fun x ρ1 => T (.ex x) ρ1 := by
  unfold sSt2
  rw [wS_b]
  unfold wE wS
  cases fv ρ with
  | none => rfl
  | some w =>
    obtain ⟨r, ρ1⟩ := w
    cases r with
    | error x => rfl
    | ok a =>
      dsimp only
      unfold bS
      cases fo ρ1 with
      | none => rfl
      | some w =>
        obtain ⟨r, ρ2⟩ := w
        cases r with
        | error x => rfl
        | ok o =>
          dsimp only
          cases fi ρ2 with
          | none => rfl
          | some w =>
            obtain ⟨r, ρ3⟩ := w
            cases r with
            | error x => rfl
            | ok j =>
              dsimp only
              cases toD ρ3 (nrm a) with
              | none => rfl
              | some w =>
                obtain ⟨x, ρ2⟩ := w
                simp only [wP_some]
                cases pk ρ2 (nrm j) with
                | none => rfl
                | some k =>
                  simp only [wP_some]
                  unfold stIx2
                  cases o with
                  | d _ => rfl
                  | o _ => rfl
                  | s i =>
                    simp only [wOw_s]
                    cases gt ρ2 i with
                    | none => rfl
                    | some s =>
                      cases s with
                      | d _ => rfl
                      | x _ => rfl
                      | o y =>
                        simp only [wOo_o]
                        cases put2 y x k <;> rfl
@[simp] theorem put_l {P : D → Prop} : wP (put2 (.lst xs) x (.int i)) P ↔ wP (ixN xs.length i) fun m => P (.lst (xs.set m x)) := wP_map
@[simp] theorem k_rng3 {P : List D → Prop} : wP (kRng3 [.int i, .int j, .int (-1)]) P ↔ (-4611686018427387904 ≤ i ∧ i < 4611686018427387904 ∧ -4611686018427387904 ≤ j ∧ j < 4611686018427387904) ∧ P (rngD i (i - j).toNat) := by
  show wP (if (-1 : Int) = -1 ∧ -4611686018427387904 ≤ i ∧ i < 4611686018427387904 ∧ -4611686018427387904 ≤ j ∧ j < 4611686018427387904 then some (rngD i (i - j).toNat) else none) P ↔ _
  rw [wP_ite]
  simp
end
end
end Dn
end

section
set_option Elab.async false
set_option linter.all false
set_option maxRecDepth 100000
set_option maxHeartbeats 4000000
/-! Dn: what may be compared; in, a list of texts. -/
namespace Dn
open PySem PySem.Spec L2
structure Shp (k : Nat) (ds : List D) : Prop where
  p : isPys ds = true
  c : PyData.canLayAll0 (toPys ds) = true
  d : PyData.depthAll (toPys ds) ≤ k
structure Sh1 (k : Nat) (x : D) : Prop where
  p : isPy x = true
  c : PyData.canLay0 (toPy x) = true
  d : PyData.depth (toPy x) ≤ k
theorem Shp.nil {k : Nat} : Shp k [] := ⟨rfl, rfl, Nat.zero_le _⟩
theorem Shp.cons {k : Nat} {x : D} {xs : List D} (a : Sh1 k x) (h : Shp k xs) : Shp k (x :: xs) :=
  ⟨by rw [isPys, a.p, h.p]; rfl, by rw [toPys, PyData.canLayAll0, a.c, h.c]; rfl, by rw [toPys, PyData.depthAll]; exact Nat.max_le.mpr ⟨a.d, h.d⟩⟩
theorem Shp.of {k : Nat} : ∀ {xs : List D}, (∀ x ∈ xs, Sh1 k x) → Shp k xs
  | [], _ => .nil
  | x :: xs, h => .cons (h x List.mem_cons_self) (Shp.of fun y hy => h y (List.mem_cons_of_mem _ hy))
theorem Sh1.str {k : Nat} {z : Str} (h : PyData.strOk z = true) : Sh1 k (.str z) := ⟨rfl, h, Nat.zero_le _⟩
theorem Sh1.int {k : Nat} {i : Int} : Sh1 k (.int i) := ⟨rfl, rfl, Nat.zero_le _⟩
theorem Sh1.bl {k : Nat} {b : Bool} : Sh1 k (.bl b) := ⟨rfl, rfl, Nat.zero_le _⟩
theorem Sh1.non {k : Nat} : Sh1 k .non := ⟨rfl, rfl, Nat.zero_le _⟩
theorem Sh1.tup {k : Nat} {ys : List D} (hy : Shp k ys) : Sh1 (k + 1) (.tup ys) := ⟨by rw [isPy]; exact hy.p, by rw [toPy, PyData.canLay0]; exact hy.c, by rw [toPy, PyData.depth]; have := hy.d; omega⟩
theorem Sh1.lst {k : Nat} {ys : List D} (hy : Shp k ys) : Sh1 (k + 1) (.lst ys) := ⟨by rw [isPy]; exact hy.p, by rw [toPy, PyData.canLay0]; exact hy.c, by rw [toPy, PyData.depth]; have := hy.d; omega⟩
theorem Shp.mono {j k : Nat} {xs : List D} (h : Shp j xs) (hk : j ≤ k) : Shp k xs := ⟨h.p, h.c, Nat.le_trans h.d hk⟩
theorem Sh1.mono {j k : Nat} {x : D} (h : Sh1 j x) (hk : j ≤ k) : Sh1 k x := ⟨h.p, h.c, Nat.le_trans h.d hk⟩
theorem Sh1.shaped {k : Nat} {x : D} (h : Sh1 k x) (hk : k ≤ 64) : SeqAt.shaped (toPy x) = true := by
  unfold SeqAt.shaped
  rw [Bool.and_eq_true]
  exact ⟨h.c, decide_eq_true (Nat.le_trans h.d hk)⟩
theorem Shp.shapedL {k : Nat} {xs : List D} (h : Shp k xs) (hk : k ≤ 63) : SeqAt.shaped (.list (toPys xs)) = true := (Sh1.lst h).shaped (by omega)
theorem Shp.shapedT {k : Nat} {xs : List D} (h : Shp k xs) (hk : k ≤ 63) : SeqAt.shaped (.tuple (toPys xs)) = true := (Sh1.tup h).shaped (by omega)
theorem shp_strs {zs : List Str} (h : ∀ z ∈ zs, PyData.strOk z = true) : Shp 0 (zs.map D.str) := Shp.of fun x hx => by
  obtain ⟨z, hz, rfl⟩ := List.mem_map.mp hx
  exact .str (h z hz)
theorem shp_ints (ns : List Int) : Shp 0 (ns.map D.int) := Shp.of fun x hx => by
  obtain ⟨z, hz, rfl⟩ := List.mem_map.mp hx
  exact .int
/-- x is one of the texts -/
def memS (zs : List Str) : D → Bool
  | .str z => decide (z ∈ zs)
  | _ => false
theorem any_memS (x : D) : ∀ zs : List Str, ((toPys (zs.map D.str)).any fun y => PyData.eqv y (toPy x)) = memS zs x
  | [] => by cases x <;> rfl
  | z :: zs => by
    have ih := any_memS x zs
    rw [List.map_cons, toPys, List.any_cons, ih]
    cases x with
    | str a =>
      show ((z == a) || decide (a ∈ zs)) = decide (a ∈ z :: zs)
      by_cases h : z = a
      · subst h; simp
      · have : (z == a) = false := by simpa using h
        rw [this]
        simp [Ne.symm h]
    | _ => rfl
theorem in_strsL {x : D} {k : Nat} {zs : List Str} (hx : Sh1 k x) (hk : k ≤ 64) (hz : ∀ z ∈ zs, PyData.strOk z = true) : inD x (.lst (zs.map D.str)) = some (memS zs x) := by
  have h := shp_strs hz
  show (if isPy x = true ∧ isPys (zs.map D.str) = true ∧ SeqAt.shaped (toPy x) = true ∧ SeqAt.shaped (.list (toPys (zs.map D.str))) = true then _ else none) = _
  rw [if_pos ⟨hx.p, h.p, hx.shaped hk, h.shapedL (by omega)⟩, any_memS]
theorem in_strsT {x : D} {k : Nat} {zs : List Str} (hx : Sh1 k x) (hk : k ≤ 64) (hz : ∀ z ∈ zs, PyData.strOk z = true) : inT x (zs.map D.str) = some (memS zs x) := by
  have h := shp_strs hz
  unfold inT
  rw [if_pos ⟨hx.p, h.p, hx.shaped hk, h.shapedT (by omega)⟩, any_memS]
/-! enumerate -/
theorem pairs_len {ds : List D} : (pairs (rng 0 ds.length) ds).length = ds.length := by simp [pairs, rng]
theorem drop_pairs {ds r : List D} {m : Nat} {x : D} (h : (pairs (rng 0 ds.length) ds).drop m = x :: r) : ∃ h : m < ds.length, x = .tup [.int (m : Int), ds[m]] ∧ r = (pairs (rng 0 ds.length) ds).drop (m + 1) := by
  have hl := congrArg List.length h
  rw [List.length_drop, pairs_len, List.length_cons] at hl
  have hm : m < ds.length := by omega
  have h2 := List.drop_eq_getElem_cons (l := pairs (rng 0 ds.length) ds) (i := m) (by rw [pairs_len]; exact hm)
  rw [h] at h2
  obtain ⟨e1, e2⟩ := List.cons.inj h2
  refine ⟨hm, ?_, e2⟩
  rw [e1]
  simp [pairs, rng]
theorem drop_all {ds : List D} {m : Nat} (h : (pairs (rng 0 ds.length) ds).drop m = []) : ds.length ≤ m := by
  have := congrArg List.length h
  rw [List.length_drop, pairs_len, List.length_nil] at this
  omega
/-! equal data of one kind -/
theorem eqS_lst {k j : Nat} {xs ys : List D} (h1 : Shp k xs) (h2 : Shp j ys) (hk : k ≤ 63) (hj : j ≤ 63) : eqS (.lst xs) (.lst ys) = some (PyData.eqvAll (toPys xs) (toPys ys)) := by
  have : ∀ P : Bool → Prop, wP (eqS (.lst xs) (.lst ys)) P ↔ P (PyData.eqv (toPy (.lst xs)) (toPy (.lst ys))) := fun P => by
    rw [eqS_l]
    exact ⟨fun z => z.2, fun z => ⟨⟨(Sh1.lst h1).p, (Sh1.lst h2).p, (Sh1.lst h1).shaped (by omega), (Sh1.lst h2).shaped (by omega)⟩, z⟩⟩
  have h := (this fun b => b = PyData.eqvAll (toPys xs) (toPys ys)).mpr (by rw [toPy, toPy, PyData.eqv])
  obtain ⟨b, e, rfl⟩ := wP_ex.mp h
  exact e
theorem eqS_tup {k j : Nat} {xs ys : List D} (h1 : Shp k xs) (h2 : Shp j ys) (hk : k ≤ 63) (hj : j ≤ 63) : eqS (.tup xs) (.tup ys) = some (PyData.eqvAll (toPys xs) (toPys ys)) := by
  have : ∀ P : Bool → Prop, wP (eqS (.tup xs) (.tup ys)) P ↔ P (PyData.eqv (toPy (.tup xs)) (toPy (.tup ys))) := fun P => by
    rw [eqS_t]
    exact ⟨fun z => z.2, fun z => ⟨⟨(Sh1.tup h1).p, (Sh1.tup h2).p, (Sh1.tup h1).shaped (by omega), (Sh1.tup h2).shaped (by omega)⟩, z⟩⟩
  have h := (this fun b => b = PyData.eqvAll (toPys xs) (toPys ys)).mpr (by rw [toPy, toPy, PyData.eqv])
  obtain ⟨b, e, rfl⟩ := wP_ex.mp h
  exact e
end Dn
end

section
set_option Elab.async false
set_option linter.all false
set_option maxRecDepth 100000
set_option maxHeartbeats 4000000
/-! Dn: xs[a:b] = ys (b may lie behind the end); the rule for ints at the end is the library's, its proof turned to a clipped end. -/
namespace Dn
open PySem PySem.Spec PyProof.Rows L2
section
variable {prog : Program} {w : World} {A : Around} {E : Value → Shared → Prop} {s : Shared}
theorem bounds_cut {a c n : Nat} (hac : a ≤ c) (hc : a ≤ n) : sliceBounds (some (a : Int)) (some (c : Int)) none n = ((a : Int), ((min c n : Nat) : Int), 1) := by
  simp only [sliceBounds, Option.getD_none]
  have z1 : ¬ ((a : Int) < 0) := by omega
  have z2 : ¬ ((c : Int) < 0) := by omega
  simp only [z1, z2, if_false, show (1 : Int) > 0 by decide, if_true]
  congr 1
  · omega
  · congr 1; omega
theorem setItem_cut {l b sl : Addr} {items new : Array Value} {n n2 : Nat} {vl vu : Value} {a c : Nat} {Q : Unit → Shared → Prop}
    (e : s.heap.get? l = some { cls := .type "list", data := .seq items n }) (e2 : s.heap.get? b = some { cls := .type "list", data := .seq new n2 }) (hne : l ≠ b)
    (hs : s.heap.IsSliceOf sl vl vu .none) (pl : IsPart vl (some (a : Int))) (pu : IsPart vu (some (c : Int))) (hac : a ≤ c) (hc : a ≤ items.size)
    (hsz : items.size + new.size ≤ sizeLine) (h : Q () { s with heap := s.heap.update l (Obj.mapSeq fun xs => xs.extract 0 a ++ new ++ xs.extract (min c items.size) xs.size) }) :
    wpAny (model prog w) A (setItem (.ref l) (.ref sl) (.ref b)) Q E s := by
  have hl : s.heap.IsList l items := PySem.IsL.isList e
  have hb : s.heap.IsList b new := PySem.IsL.isList e2
  obtain ⟨os, hos, hcs, hds⟩ := id hs
  have hTs : s.TypeIs (.ref sl) "slice" := ⟨os, hos, hcs⟩
  have hstep : ¬ ((rawPart none == rawInt 0) = true) := Bool.false_ne_true
  have hsame : Builtin.List.listSameRef (.ref l) (.ref b) = false := by
    unfold Builtin.List.listSameRef
    exact beq_eq_false_iff_ne.mpr hne
  have hmax : (max (a : Int) ((min c items.size : Nat) : Int)).toNat = min c items.size := by omega
  have hz' : ((fun xs : Array Value => xs.extract 0 a ++ new ++ xs.extract (min c items.size) xs.size) items).size ≤ sizeLine + 1 := by
    simp only [Array.size_append, Array.size_extract]
    omega
  unfold setItem
  try with_reducible refine wpAny_holding ?_
  first | refine wpAny_bind (wpAny_pure ?_) | skip
  refine wpAny_bind (wpAny_sequenceKey hl.typeIs (by decide) ?_)
  refine wpAny_bind (wpAny_callSpecial?_slot (name := Str.ofString "__setitem__") hl.typeIs slot_list_setitem
    (wpAny_call_entry slot_list_setitem hl.typeIs entry_list_setitem ?_ (args_list_setitem _ _ _)))
  show wpAny _ _ (Builtin.List.listSubscript? (.ref sl) >>= _) _ _ s
  refine wpAny_bind ?_
  unfold Builtin.List.listSubscript?
  refine wpAny_bind (wpAny_specialOf hTs slice_no_index ?_)
  simp only [Option.isNone_none, if_true]
  refine wpAny_pure ?_
  show wpAny _ _ (typeOf (.ref sl) >>= _) _ _ s
  refine wpAny_bind (wpAny_typeOf hTs ?_)
  first
    | rw [if_neg (by decide)]
    | refine PySem.W.KFB.if_not (by decide) ?_
  rw [listSliceParts_eq]
  refine wpAny_bind (wpAny_bind (wpAny_field hos hds (x := .none) rfl (wpAny_bind (wpAny_listPart .none ?_))))
  rw [if_neg hstep]
  refine wpAny_bind (wpAny_field hos hds (x := vl) rfl (wpAny_bind (wpAny_listPart pl ?_)))
  refine wpAny_bind (wpAny_field hos hds (x := vu) rfl (wpAny_bind (wpAny_listPart pu (wpAny_pure ?_))))
  first
    | simp only [hsame, Bool.false_eq_true, if_false]
    | refine PySem.W.KFB.if_not hsame ?_
    | (dsimp only
       rw [if_neg (by rw [hsame]; exact Bool.false_ne_true)])
  refine wpAny_bind (m := Builtin.List.listAllItems (.ref b) "must assign iterable to extended slice") ?_
  unfold Builtin.List.listAllItems
  refine wpAny_bind (wpAny_typeOf hb.typeIs ?_)
  first
    | refine PySem.W.KFB.if_so (by decide) ?_
    | rw [if_pos (by decide)]
    | simp only [beq_self_eq_true, Bool.true_or, if_true]
  unfold Builtin.List.listItems
  refine wpAny_bind (wpAny_seqItems e2 rfl (wpAny_pure ?_))
  refine wpAny_bind (wpAny_bind (wpAny_seqItems e rfl (wpAny_pure ?_)))
  refine wpAny_bind (wpAny_of_eq ((sliceIndices_raw (some (a : Int)) (some (c : Int)) none items.size (by simp)).trans (congrArg (pure : Int × Int × Int → Sem (Int × Int × Int)) (bounds_cut hac hc))) ?_)
  show wpAny _ _ (if ((1 : Int) == 1) = true then _ else _) _ _ s
  rw [if_pos (by decide)]
  refine wpAny_bind (wpAny_rule ?_)
  first
    | simp only [notLongL hsz, Bool.false_eq_true, if_false]
    | refine PySem.W.KFB.if_not (notLongL hsz) ?_
  first | refine wpAny_bind (wpAny_pure ?_) | skip
  show wpAny _ _ (updateSeq l (fun xs => xs.extract 0 ((a : Int)).toNat ++ new ++ xs.extract (max (a : Int) ((min c items.size : Nat) : Int)).toNat xs.size) >>= _) _ _ s
  rw [hmax, Int.toNat_natCast]
  refine wpAny_bind (wpAny_updateSeq (hz := Nat.le_trans (Nat.le_add_right _ _) hsz) (_hz' := hz') e rfl ?_)
  refine wpAny_bind (wpAny_letGo ?_)
  first
    | exact wpAny_bind (wpAny_pure (wpAny_pure ⟨.none, rfl, wpAny_pure h⟩))
    | exact wpAny_pure ⟨.none, rfl, wpAny_pure h⟩

end
section
variable {X : Cx}
theorem set_cut {pins : List (Addr × Obj)} {s : Shared} {σ : L2.St} {H : Hp} {l b sl : Addr} {xs ys : List V} {a c : Nat} {vl vu : Value} {Q : Unit → Shared → Prop} (I : Inv X pins σ H s)
    (hH : H l = some (.lst xs)) (hB : H b = some (.lst ys)) (hne : l ≠ b) (hs : s.heap.IsSliceOf sl vl vu .none) (ra : IsPart vl (some (a : Int))) (rc : IsPart vu (some (c : Int))) (hac : a ≤ c) (hc : a ≤ xs.length)
    (hz : xs.length + ys.length ≤ sizeLine) (h : ∀ s', Inv X pins σ (upd H l (.lst (xs.take a ++ ys ++ xs.drop (min c xs.length)))) s' → Q () s') : wpAny (model X.prog X.w) X.A (setItem (.ref l) (.ref sl) (.ref b)) Q X.xe s := by
  obtain ⟨z, its, n, r, hl, e⟩ := I.lstM hH
  obtain ⟨z2, its2, n2, r2, hl2, e2⟩ := I.lstM hB
  have rl := r.length
  have rl2 := r2.length
  refine setItem_cut (a := a) (c := c) e e2 hne hs ra rc hac (by rw [List.size_toArray]; omega) (by rw [List.size_toArray, List.size_toArray]; omega) (h _ ?_)
  refine I.lset (its' := its.take a ++ its2 ++ its.drop (min c xs.length)) (t' := s.toks) hH e ?_ (Vals.append (Vals.append (r.take _) r2) (r.drop _)) ?_
  · have := splice_eq its its2 a (min c xs.length)
    rw [List.size_toArray, ← rl]
    rw [List.size_toArray, ← rl] at this
    exact this
  · rw [List.length_append, List.length_append, List.length_take, List.length_drop]
    omega
end
/-! ### the rule by syntax -/
def slPost (σ : L2.St) (x v : V) (i j : Int) (Q : L2.St → Hp → Prop) : Hp → Prop := fun H3 => ∃ la b xs ys, ∃ a c : Nat, x = .ref la ∧ v = .ref b ∧ i = (a : Int) ∧ j = (c : Int) ∧ H3 la = some (.lst xs) ∧ H3 b = some (.lst ys) ∧ la ≠ b ∧ a ≤ c ∧ a ≤ xs.length ∧ xs.length + ys.length ≤ sizeLine ∧ Q σ (upd H3 la (.lst (xs.take a ++ ys ++ xs.drop (min c xs.length))))
def gSlc (to tl th : TE) : TG := fun v σ H Q => to σ H fun x H1 => tl σ H1 fun y H2 => ∃ i : Int, y = .int i ∧ th σ H2 fun z H3 => ∃ j : Int, z = .int j ∧ slPost σ x v i j Q H3
theorem pg_slc {X : Cx} {o lo hi : Expr} {to tl th : TE} {pos p2 : Pos} (ho : PE X o to) (hl : PE X lo tl) (hh : PE X hi th)
    (ha : ∀ v, assign (.Subscript o (.Slice (some lo) (some hi) none p2) pos) X.env v = (do
      let ov ← holding [v] (eval o X.env)
      let iv ← holding [v, ov] (eval (.Slice (some lo) (some hi) none p2) X.env)
      standAt pos
      holding [v, ov, iv] (setItem ov iv v)
      release [iv, v, ov] []) := by intro _; rfl) : PG X (.Subscript o (.Slice (some lo) (some hi) none p2) pos) (gSlc to tl th) := by
  refine ⟨fun pins s σ H v u Q I r h => ?_⟩
  rw [ha]
  refine wpAny_bind (wpAny_holding (thn (ho.run pins s σ H _ I h) fun ov s1 ⟨x, H1, I1, r1, q1⟩ => ?_))
  refine wpAny_bind (wpAny_holding ?_)
  refine wpAny_Slice (thn ((po_some hl).run pins s1 σ H1 (fun l H2 => match l with
    | some i => th σ H2 fun z H3 => ∃ j : Int, z = .int j ∧ slPost σ x v i j Q H3
    | none => False) I1 q1) fun vl s2 ⟨l, H2, I2, pl, q2⟩ => ?_)
  cases l with
  | none => exact q2.elim
  | some i =>
    refine thn ((po_some hh).run pins s2 σ H2 (fun l H3 => match l with
      | some j => slPost σ x v i j Q H3
      | none => False) I2 q2) fun vu s3 ⟨m, H3, I3, pu, q3⟩ => ?_
    cases m with
    | none => exact q3.elim
    | some j =>
      obtain ⟨la, b, xs, ys, a, c, rfl, rfl, rfl, rfl, hx, hy, hne, hac, hax, hz, q⟩ := q3
      cases r
      cases r1
      rw [evalPart_none]
      refine wpAny_pure ?_
      have I4 : Inv X pins σ H3 { s3 with heap := s3.heap.push { cls := .type "slice", data := .fields #[vl, vu, .none] } } := I3.kept (t' := s3.toks) fun b ob q => Heap.get?_push_of_some _ q
      refine wpAny_bind (wpAny_standAt (wpAny_bind (wpAny_holding (set_cut (a := a) (c := c) I4 hx hy hne (Heap.IsSliceOf.new ..) pl pu hac hax hz fun s' I5 => ?_))))
      exact wpAny_release ⟨σ, _, I5, q⟩
section
variable {K : Fg} {mg : MG} {W : WX} {pr : Nat → Bool} {σ : L2.St} {ρ ρ1 ρ' : Env} {F F1 H H1 H0 : Hp} {v u : V} {fv fo fl fh : DE}
def slSt (o : R) (x : D) (i j : Int) : DS := fun ρ => match o, x with
  | .s k, .lst es => (match gt ρ k with
    | some (.o (.lst ds)) => if 0 ≤ i ∧ i ≤ j ∧ i ≤ ds.length ∧ ds.length + es.length ≤ sizeLine then some (.nx, ρ.set k (some (.o (.lst (ds.take i.toNat ++ es ++ ds.drop (min j.toNat ds.length)))))) else none
    | _ => none)
  | _, _ => none
def sSlS (fv fo fl fh : DE) : DS := bS fv fun a => bS fo fun o => bS fl fun l => match l with
  | .d (.int i) => bS fh fun h => match h with
    | .d (.int j) => fun ρ => (match toD ρ (nrm a) with
      | some (x, ρ1) => slSt o x i j ρ1
      | none => none)
    | _ => fun _ => none
  | _ => fun _ => none
theorem LS.slS {D0 : Ends} (h : LS K mg W pr (sSlS fv fo fl fh) D0 σ H) : tAsg (LE K mg W fv) (gSlc (LE K mg W fo) (LE K mg W fl) (LE K mg W fh)) D0 σ H := by
  obtain ⟨ρ, F, c, ρ', rs, e, q⟩ := h
  refine LE.bindS rs e q fun a v ρ1 F1 H1 rs1 g1 rr e1 => ?_
  obtain ⟨F1', rs1', g1', ro⟩ := opnd_of rs1 g1 rr
  have qa := q.shift g1' fun _ _ => rfl
  refine LE.bindS rs1' e1 qa fun o w ρ2 F2 H2 rs2 g2 rr2 e2 => ?_
  have qb := qa.shift g2 fun _ _ => rfl
  refine LE.bindS rs2 e2 qb fun l y ρ3 F3 H3 rs3 g3 rr3 e3 => ?_
  split at e3
  · rename_i i
    cases rr3
    have qc := qb.shift g3 fun _ _ => rfl
    refine ⟨i, rfl, LE.bindS rs3 e3 qc fun h z ρ4 F4 H4 rs4 g4 rr4 e4 => ?_⟩
    split at e4
    · rename_i j
      cases rr4
      have g234 := g2.trans (g3.trans g4)
      have ro' := ro.sub g234.mono
      cases zz : toD ρ4 (nrm a) with
      | none => rw [zz] at e4; cases e4
      | some yy =>
        obtain ⟨x, ρ5⟩ := yy
        rw [zz] at e4
        dsimp only at e4
        obtain ⟨F5, rs5, g5, rx⟩ := toD_ok rs4 ro' zz
        unfold slSt at e4
        split at e4
        · rename_i k es
          have hw : σ[k]? = some (some w) := rr2.1
          split at e4
          · rename_i ds zg
            obtain ⟨p, q1, q2, ob, q3, q4⟩ := rs5.own k _ zg
            rw [hw] at q1
            cases q1
            split at e4
            · rename_i hc
              cases e4
              obtain ⟨c1, c2, c3, c4⟩ := hc
              obtain ⟨ai, rfl⟩ := Int.eq_ofNat_of_zero_le c1
              obtain ⟨cj, rfl⟩ := Int.eq_ofNat_of_zero_le (Int.le_trans c1 c2)
              cases ob with
              | lst us =>
                have q4 : Reps K F5 ds us := q4
                have hl := q4.length
                cases rx with
                | lst hb rv =>
                  rename_i b vs
                  have hl2 := rv.length
                  have hne : p ≠ b := fun z => by
                    subst z
                    rw [q2] at hb
                    cases hb
                  obtain ⟨a1, a2⟩ := own_set (y := .lst (ds.take ai ++ es ++ ds.drop (min cj ds.length))) (o := .lst (us.take ai ++ vs ++ us.drop (min cj us.length))) rs5 zg hw (by
                    show Reps K F5 _ _
                    rw [← hl]
                    exact ((q4.take _).append rv).append (q4.drop _))
                  exact ⟨_, rfl, p, b, us, vs, ai, cj, rfl, rfl, rfl, rfl, q3, rs5.sub _ _ hb, hne, by omega, by omega, by omega, q σ F5 _ a1 (g1'.trans (g234.trans (g5.trans a2))) fun _ _ => rfl⟩
              | _ => exact q4.elim
            · cases e4
          · cases e4
        · cases e4
    · cases e4
  · cases e3
theorem ps_slS {X : Cx} {J : Lk} {e o lo hi : Expr} {pos p' p2 : Pos} (he : PE X e (LE (kj J X) X.mg W fv)) (ho : PE X o (LE (kj J X) X.mg W fo)) (hl : PE X lo (LE (kj J X) X.mg W fl)) (hh : PE X hi (LE (kj J X) X.mg W fh))
    (ha : ∀ v, assign (.Subscript o (.Slice (some lo) (some hi) none p2) p') X.env v = (do
      let ov ← holding [v] (eval o X.env)
      let iv ← holding [v, ov] (eval (.Slice (some lo) (some hi) none p2) X.env)
      standAt p'
      holding [v, ov, iv] (setItem ov iv v)
      release [iv, v, ov] []) := by intro _; rfl)
    (hs : swapsWithSole [.Subscript o (.Slice (some lo) (some hi) none p2) p'] e pos.line X.env = pure false := by rfl) (hw : swappedStores [.Subscript o (.Slice (some lo) (some hi) none p2) p'] e X.env = pure none := by rfl) (h1 : (assignEach [.Subscript o (.Slice (some lo) (some hi) none p2) p'] X.env).map (·.2) = [assign (.Subscript o (.Slice (some lo) (some hi) none p2) p') X.env] := by rfl) :
    PS X (.Assign [.Subscript o (.Slice (some lo) (some hi) none p2) p'] e pos) (LS (kj J X) X.mg W pr (sSlS fv fo fl fh)) := PS.imp (ps_asg he (pg_slc ho hl hh ha) hs hw h1) fun _ _ _ h => LS.slS h
end
end Dn
end

section
set_option Elab.async false
set_option linter.all false
set_option maxRecDepth 100000
set_option maxHeartbeats 4000000
/-! Dn: conditions of the slice store, of dicts; values of any make, their size. -/
namespace Dn
open PySem PySem.Spec PyProof.Rows L2
section
variable {ρ : Env} {f fa fb fv fo fl fh : DE} {x y : D} {xs ys : List D} {Q : R → Env → Prop} {E : Exn → Env → Prop} {T : Ctl → Env → Prop} {i j : Int} {P : R → Prop} {k : Nat}
def wLs (x : D) (P : List D → Prop) : Prop := match x with
  | .lst es => P es
  | _ => False
@[simp] theorem wLs_l {P : List D → Prop} : wLs (.lst xs) P ↔ P xs := Iff.rfl
@[simp] theorem wS_slS : wS (sSlS fv fo fl fh) ρ T ↔ wE fv ρ (fun a ρ1 => wE fo ρ1 (fun o ρ2 => wE fl ρ2 (fun l ρ3 => wI l fun i => wE fh ρ3 (fun h ρ4 => wI h fun j => wP (toD ρ4 (nrm a)) fun p => wOw o fun k => wLs p.1 fun es => wGo (gt p.2 k) fun ds => (0 ≤ i ∧ i ≤ j ∧ i ≤ ds.length ∧ ds.length + es.length ≤ sizeLine) ∧ T .nx (p.2.set k (some (.o (.lst (ds.take i.toNat ++ es ++ ds.drop (min j.toNat ds.length))))))) fun x ρ1 => T (.ex x) ρ1) fun x ρ1 => T (.ex x) ρ1) fun x ρ1 => T (.ex x) ρ1) fun x ρ1 => T (.ex x) ρ1 := by
  unfold sSlS
  rw [wS_b]
  unfold wE wS
  cases fv ρ with
  | none => rfl
  | some w =>
    obtain ⟨r, ρ1⟩ := w
    cases r with
    | error x => rfl
    | ok a =>
      dsimp only
      unfold bS
      cases fo ρ1 with
      | none => rfl
      | some w =>
        obtain ⟨r, ρ2⟩ := w
        cases r with
        | error x => rfl
        | ok o =>
          dsimp only
          cases fl ρ2 with
          | none => rfl
          | some w =>
            obtain ⟨r, ρ3⟩ := w
            cases r with
            | error x => rfl
            | ok l =>
              dsimp only
              cases l with
              | s _ => rfl
              | o _ => rfl
              | d l =>
                cases l with
                | int i =>
                  dsimp only
                  simp only [wI_int]
                  cases fh ρ3 with
                  | none => rfl
                  | some w =>
                    obtain ⟨r, ρ4⟩ := w
                    cases r with
                    | error x => rfl
                    | ok h =>
                      dsimp only
                      cases h with
                      | s _ => rfl
                      | o _ => rfl
                      | d h =>
                        cases h with
                        | int j =>
                          dsimp only
                          simp only [wI_int]
                          cases toD ρ4 (nrm a) with
                          | none => rfl
                          | some w =>
                            obtain ⟨x, ρ5⟩ := w
                            simp only [wP_some]
                            unfold slSt
                            cases o with
                            | d _ => rfl
                            | o _ => rfl
                            | s k =>
                              simp only [wOw_s]
                              cases x with
                              | lst es =>
                                simp only [wLs_l]
                                cases gt ρ5 k with
                                | none => rfl
                                | some s =>
                                  cases s with
                                  | d _ => rfl
                                  | x _ => rfl
                                  | o y =>
                                    cases y with
                                    | lst ds =>
                                      simp only [wGo_l]
                                      by_cases hc : 0 ≤ i ∧ i ≤ j ∧ i ≤ ds.length ∧ ds.length + es.length ≤ sizeLine
                                      · rw [if_pos hc]
                                        exact ⟨fun z => ⟨hc, z⟩, fun z => z.2⟩
                                      · rw [if_neg hc]
                                        exact ⟨fun z => z.elim, fun z => absurd z.1 hc⟩
                                    | _ => rfl
                              | _ => rfl
                        | _ => rfl
                | _ => rfl
@[simp] theorem wE_mG {p : D → Bool} {fs : List DE} {g : D → List D → Option R} : wE (mG p f fs g) ρ Q E ↔ wE f ρ (fun a ρ1 => wP (pk ρ1 (nrm a)) fun x => p x = true ∧ wE (eA fs) ρ1 (fun as ρ2 => wP (pk ρ2 (nrm a)) fun x => wP (pks ρ2 as) fun xs => wP (g x xs) fun r => Q r ρ2) E) E := by
  unfold mG
  unfold wE bE
  cases f ρ with
  | none => rfl
  | some w =>
    obtain ⟨r, ρ1⟩ := w
    cases r with
    | error x => rfl
    | ok a =>
      dsimp only
      cases pk ρ1 (nrm a) with
      | none => rfl
      | some x =>
        simp only [wP_some]
        by_cases hp : p x = true
        · rw [if_pos hp]
          cases eA fs ρ1 with
          | none => exact ⟨fun z => z.elim, fun z => z.2⟩
          | some w =>
            obtain ⟨r, ρ2⟩ := w
            cases r with
            | error x => exact ⟨fun z => ⟨hp, z⟩, fun z => z.2⟩
            | ok as =>
              dsimp only
              cases pk ρ2 (nrm a) with
              | none => exact ⟨fun z => z.elim, fun z => z.2⟩
              | some x =>
                cases pks ρ2 as with
                | none => exact ⟨fun z => z.elim, fun z => z.2⟩
                | some xs =>
                  simp only [wP_some]
                  cases g x xs with
                  | none => exact ⟨fun z => z.elim, fun z => z.2⟩
                  | some r => exact ⟨fun z => ⟨hp, z⟩, fun z => z.2⟩
        · rw [if_neg hp]
          exact ⟨fun z => z.elim, fun z => absurd z.1 hp⟩
@[simp] theorem isD_K {kvs : List (Key × D)} : isDct (.dK kvs) = true := rfl
@[simp] theorem isD_T {kvs : List (List Key × D)} : isDct (.dT kvs) = true := rfl
@[simp] theorem k_g1T {kvs : List (List Key × D)} : wP (kGet1 (.dT kvs) [.tup xs]) P ↔ wP (keysOf xs) fun ks => P (.d ((valA kvs ks).getD .non)) := by
  show wP (((keysOf xs).map fun k => valA kvs k).map fun o => R.d (o.getD .non)) P ↔ _
  cases keysOf xs <;> rfl
theorem k_g2T {kvs : List (List Key × D)} (hy : noOwn y = true) : wP (kGet2' (.dT kvs) [.tup xs, y]) P ↔ wP (keysOf xs) fun ks => P (.d ((valA kvs ks).getD y)) := by
  show wP (if noOwn y = true then ((keysOf xs).map fun k => valA kvs k).map fun o => R.d (o.getD y) else none) P ↔ _
  rw [if_pos hy]
  cases keysOf xs <;> rfl
@[simp] theorem put_T {kvs : List (List Key × D)} {P : D → Prop} : wP (put2 (.dT kvs) x (.tup xs)) P ↔ wP (keysOf xs) fun ks => kvs.length < sizeLine ∧ P (.dT (putA kvs ks x)) := by
  show wP ((keysOf xs).bind fun k => if kvs.length < sizeLine then some (D.dT (putA kvs k x)) else none) P ↔ _
  cases keysOf xs with
  | none => rfl
  | some ks =>
    show wP (if kvs.length < sizeLine then some (D.dT (putA kvs ks x)) else none) P ↔ _
    by_cases h : kvs.length < sizeLine <;> simp [h]
end
theorem keys_strs : ∀ zs : List Str, keysOf (zs.map D.str) = some (zs.map Sum.inr)
  | [] => rfl
  | z :: zs => by
    show (match keyOf (.str z), keysOf (zs.map D.str) with
      | some k, some ks => some (k :: ks)
      | _, _ => none) = _
    rw [keys_strs zs]
    rfl
/-! ### values of any make -/
mutual
def okV : D → Bool
  | .non => true
  | .bl _ => true
  | .int i => decide (i.natAbs < 1000000000)
  | .str z => PyData.strOk z
  | .tup xs => okVs xs
  | .lst xs => okVs xs
  | _ => false
def okVs : List D → Bool
  | [] => true
  | x :: xs => okV x && okVs xs
end
mutual
def mv : D → Nat
  | .str z => 10 * z.length + 2
  | .tup xs => mvs xs + 4
  | .lst xs => mvs xs + 4
  | .int _ => 2000
  | _ => 10
def mvs : List D → Nat
  | [] => 0
  | x :: xs => mv x + 2 + mvs xs
end
theorem okVs_mem : ∀ {xs : List D}, okVs xs = true ↔ ∀ x ∈ xs, okV x = true
  | [] => by simp [okVs]
  | x :: xs => by
    rw [okVs, Bool.and_eq_true, okVs_mem (xs := xs)]
    simp
theorem mvs_len : ∀ xs : List D, 2 * xs.length ≤ mvs xs
  | [] => by simp [mvs]
  | x :: xs => by
    have := mvs_len xs
    rw [mvs, List.length_cons]
    omega
theorem mvs_mem : ∀ {xs : List D} {x : D}, x ∈ xs → mv x + 2 ≤ mvs xs
  | x :: xs, y, h => by
    rw [mvs]
    rcases List.mem_cons.mp h with rfl | h
    · omega
    · have := mvs_mem h
      omega
theorem mvs_app : ∀ xs ys : List D, mvs (xs ++ ys) = mvs xs + mvs ys
  | [], ys => by simp [mvs]
  | x :: xs, ys => by
    rw [List.cons_append, mvs, mvs, mvs_app xs ys]
    omega
theorem mvs_perm {xs ys : List D} (p : xs.Perm ys) : mvs xs = mvs ys := by
  induction p with
  | nil => rfl
  | cons x _ ih => rw [mvs, mvs, ih]
  | swap x y l => rw [mvs, mvs, mvs, mvs]; omega
  | trans _ _ h1 h2 => exact h1.trans h2
end Dn
end

section
set_option Elab.async false
set_option linter.all false
set_option maxRecDepth 100000
set_option maxHeartbeats 4000000
/-! Dn: what repr needs of values of any make. -/
namespace Dn
open PySem PySem.Spec PyProof.Rows L2
def lens : List Str → Nat
  | [] => 0
  | t :: r => t.length + 2 + lens r
theorem textFrom_le : ∀ (ts : List Str) (k : Nat) (acc : Str), (textFrom k acc ts).length ≤ acc.length + lens ts
  | [], k, acc => by
    show acc.length ≤ acc.length + 0
    omega
  | t :: r, k, acc => by
    have h := textFrom_le r (k + 1) (acc ++ (if k > 0 then ", " else "" : String) ++ t)
    have e : (acc ++ (if k > 0 then ", " else "" : String) ++ t).length ≤ acc.length + 2 + t.length := by
      rw [strLen_append, strLen_append]
      split
      · exact Nat.le_refl _
      · have : ((("" : String) : Str)).length = 0 := rfl
        omega
    have e2 : textFrom k acc (t :: r) = textFrom (k + 1) (acc ++ (if k > 0 then ", " else "" : String) ++ t) r := rfl
    rw [e2, lens]
    omega
theorem join_le : ∀ ts : List Str, (Str.join ", " ts).length ≤ lens ts
  | [] => Nat.le_refl _
  | [t] => by
    show t.length ≤ _
    simp [lens]
  | t :: u :: r => by
    have h := join_le (u :: r)
    have e : Str.join ", " (t :: u :: r) = t ++ ", " ++ Str.join ", " (u :: r) := rfl
    have e2 : ((", " : String) : Str).length = 2 := rfl
    rw [e, strLen_append, strLen_append, lens, e2]
    omega
theorem list_le (ts : List Str) : (listText ts).length ≤ lens ts + 4 := by
  have h := textFrom_le ts 0 "["
  have e1 : ((("[" : String) : Str)).length = 1 := rfl
  have e2 : ((("]" : String) : Str)).length = 1 := rfl
  unfold listText
  rw [strLen_append]
  omega
theorem tuple_le (ts : List Str) : (tupleText ts).length ≤ lens ts + 4 := by
  have h := join_le ts
  have e1 : ((("(" : String) : Str)).length = 1 := rfl
  have e2 : ((if ts.length == 1 then ",)" else ")" : String) : Str).length ≤ 2 := by
    split
    · exact Nat.le_refl _
    · exact Nat.le_succ _
  unfold tupleText
  rw [strLen_append, strLen_append]
  omega
theorem str_le {z : Str} (h : PyData.strOk z = true) : (reprText z).length ≤ 10 * z.length + 2 := StrLaws.reprText_len z fun c hc => Nat.lt_trans (strOk_iff.mp h c hc) (by decide)
theorem log_lt {i : Int} (h : i.natAbs < 1000000000) : i.natAbs.log2 < 1920 := by
  by_cases z : i.natAbs = 0
  · rw [z]
    decide
  · rw [Nat.log2_lt z]
    exact Nat.lt_of_lt_of_le h (Nat.le_trans (show 1000000000 ≤ 2 ^ 30 by decide) (Nat.pow_le_pow_right (by decide) (by decide)))
theorem int_le (i : Int) (h : i.natAbs < 1000000000) : ((toString i : String) : Str).length ≤ 2000 := Nat.le_trans (int_text_len_1921 (log_lt h)) (by decide)
structure Pv (x : D) (m : Nat) : Prop where
  p : isPy x = true
  c : PyData.canLay0 (toPy x) = true
  s : (toPy x).showable = true
  l : (toPy x).shown.length ≤ m
structure Pvs (xs : List D) (m : Nat) : Prop where
  p : isPys xs = true
  c : PyData.canLayAll0 (toPys xs) = true
  s : PyData.showableAll (toPys xs) = true
  l : lens (PyData.shownAll (toPys xs)) ≤ m
mutual
theorem pv_of : ∀ {x : D}, okV x = true → Pv x (mv x)
  | .non, _ => ⟨rfl, rfl, rfl, by decide⟩
  | .bl b, _ => ⟨rfl, rfl, rfl, by cases b <;> decide⟩
  | .int i, h => by
    have h : i.natAbs < 1000000000 := by simpa [okV] using h
    refine ⟨rfl, rfl, ?_, int_le i h⟩
    show decide (i.natAbs.log2 < 1920) = true
    exact decide_eq_true (log_lt h)
  | .str z, h => by
    have h : PyData.strOk z = true := by simpa [okV] using h
    exact ⟨rfl, h, rfl, str_le h⟩
  | .tup xs, h => by
    have h : okVs xs = true := by simpa [okV] using h
    obtain ⟨a, b, c, d⟩ := pvs_of h
    refine ⟨by rw [isPy]; exact a, by rw [toPy, PyData.canLay0]; exact b, by rw [toPy, PyData.showable]; exact c, ?_⟩
    rw [toPy, PyData.shown, mv]
    exact Nat.le_trans (tuple_le _) (by omega)
  | .lst xs, h => by
    have h : okVs xs = true := by simpa [okV] using h
    obtain ⟨a, b, c, d⟩ := pvs_of h
    refine ⟨by rw [isPy]; exact a, by rw [toPy, PyData.canLay0]; exact b, by rw [toPy, PyData.showable]; exact c, ?_⟩
    rw [toPy, PyData.shown, mv]
    exact Nat.le_trans (list_le _) (by omega)
  | .dK _, h => by simp [okV] at h
  | .dT _, h => by simp [okV] at h
  | .src _, h => by simp [okV] at h
  | .ktup _, h => by simp [okV] at h
theorem pvs_of : ∀ {xs : List D}, okVs xs = true → Pvs xs (mvs xs)
  | [], _ => ⟨rfl, rfl, rfl, Nat.le_refl _⟩
  | x :: xs, h => by
    rw [okVs, Bool.and_eq_true] at h
    obtain ⟨a, b, c, d⟩ := pv_of h.1
    obtain ⟨a2, b2, c2, d2⟩ := pvs_of h.2
    refine ⟨by rw [isPys, a, a2]; rfl, by rw [toPys, PyData.canLayAll0, b, b2]; rfl, by rw [toPys, PyData.showableAll, c, c2]; rfl, ?_⟩
    rw [toPys, PyData.shownAll, lens, mvs]
    omega
end
theorem k_repr {x : D} {P : R → Prop} (h : okV x = true) (hd : (toPy x).depth < 100) (hm : mv x ≤ 16000000) : wP (kRepr [x]) P ↔ P (.d (.str (toPy x).shown)) := by
  obtain ⟨a, b, c, d⟩ := pv_of h
  show wP (if isPy x = true ∧ (toPy x).showable = true ∧ (toPy x).hasDict = false ∧ (toPy x).depth < 100 ∧ (toPy x).shown.length ≤ sizeLine then some (R.d (.str (toPy x).shown)) else none) P ↔ _
  rw [if_pos ⟨a, c, PyData.hasDict_of_canLay _ b, hd, by rw [sizeLine_eq]; omega⟩]
  rfl
/-- a value of any make, of the depth n at most -/
structure Val (n : Nat) (x : D) : Prop where
  ok : okV x = true
  d : (toPy x).depth ≤ n
theorem Val.sh1 {n : Nat} {x : D} (h : Val n x) : Sh1 n x := ⟨(pv_of h.ok).p, (pv_of h.ok).c, h.d⟩
theorem Val.mono {n m : Nat} {x : D} (h : Val n x) (hm : n ≤ m) : Val m x := ⟨h.ok, Nat.le_trans h.d hm⟩
theorem Val.str {n : Nat} {z : Str} (h : PyData.strOk z = true) : Val n (.str z) := ⟨by rw [okV]; exact h, Nat.zero_le _⟩
theorem Val.non {n : Nat} : Val n .non := ⟨rfl, Nat.zero_le _⟩
theorem Val.bl {n : Nat} {b : Bool} : Val n (.bl b) := ⟨by rw [okV], Nat.zero_le _⟩
theorem Val.int {n : Nat} {i : Int} (h : i.natAbs < 1000000000) : Val n (.int i) := ⟨by rw [okV]; exact decide_eq_true h, Nat.zero_le _⟩
theorem depthAll_le {n : Nat} : ∀ {xs : List D}, (∀ x ∈ xs, (toPy x).depth ≤ n) → PyData.depthAll (toPys xs) ≤ n
  | [], _ => Nat.zero_le _
  | x :: xs, h => by
    rw [toPys, PyData.depthAll]
    exact Nat.max_le.mpr ⟨h x List.mem_cons_self, depthAll_le fun y hy => h y (List.mem_cons_of_mem _ hy)⟩
theorem depth_mem {n : Nat} : ∀ {xs : List D}, PyData.depthAll (toPys xs) ≤ n → ∀ x ∈ xs, (toPy x).depth ≤ n
  | x :: xs, h, y, hy => by
    rw [toPys, PyData.depthAll] at h
    obtain ⟨h1, h2⟩ := Nat.max_le.mp h
    rcases List.mem_cons.mp hy with rfl | hy
    · exact h1
    · exact depth_mem h2 y hy
theorem Val.tup {n : Nat} {xs : List D} (h : ∀ x ∈ xs, Val n x) : Val (n + 1) (.tup xs) :=
  ⟨by rw [okV]; exact okVs_mem.mpr fun x hx => (h x hx).ok, by rw [toPy, PyData.depth]; have := depthAll_le fun x hx => (h x hx).d; omega⟩
theorem Val.lst {n : Nat} {xs : List D} (h : ∀ x ∈ xs, Val n x) : Val (n + 1) (.lst xs) :=
  ⟨by rw [okV]; exact okVs_mem.mpr fun x hx => (h x hx).ok, by rw [toPy, PyData.depth]; have := depthAll_le fun x hx => (h x hx).d; omega⟩
theorem Val.of {n : Nat} {x : D} {xs : List D} (h : Val n x) (e : x = .tup xs ∨ x = .lst xs) : 0 < n ∧ ∀ y ∈ xs, Val (n - 1) y := by
  have key : okVs xs = true ∧ PyData.depthAll (toPys xs) + 1 ≤ n := by
    rcases e with rfl | rfl
    · have h1 := h.ok
      have h2 := h.d
      rw [okV] at h1
      rw [toPy, PyData.depth] at h2
      exact ⟨h1, by omega⟩
    · have h1 := h.ok
      have h2 := h.d
      rw [okV] at h1
      rw [toPy, PyData.depth] at h2
      exact ⟨h1, by omega⟩
  exact ⟨by omega, fun y hy => ⟨okVs_mem.mp key.1 y hy, depth_mem (n := n - 1) (by omega) y hy⟩⟩
end Dn
end

section
set_option Elab.async false
set_option linter.all false
set_option maxRecDepth 100000
set_option maxHeartbeats 4000000
/-! Dn: the signs of a text, one by one; more conditions. -/
namespace Dn
open PySem PySem.Spec PyProof.Rows L2
section
variable {K : Fg} {mg : MG} {W : WX} {σ : L2.St} {ρ ρ' : Env} {F H : Hp} {f : DE}
def chars (z : Str) : List D := z.cps.toList.map fun c => D.str ⟨#[c]⟩
theorem gives_str {z : Str} {F0 : Hp} : Gives K (Its z) (chars z) F0 := by
  intro i F H _ _
  have hl : (chars z).length = z.cps.size := by simp [chars]
  refine ⟨fun h => by rw [hl] at h; exact h, fun d hd => ?_⟩
  have hi : i < z.cps.size := by
    have := (List.getElem?_eq_some_iff.mp hd).1
    omega
  unfold chars at hd
  rw [List.getElem?_map, Array.getElem?_toList, Array.getElem?_eq_getElem hi] at hd
  cases hd
  refine ⟨hi, fun v H' hv => ⟨F, .inl ⟨rfl, hv.1⟩, ?_⟩⟩
  obtain ⟨_, c, ec, rfl⟩ := hv
  rw [Array.getElem?_eq_getElem hi] at ec
  cases ec
  exact .str _
def itStr (f : DE) : Dx (List D) := bE f fun a => fun ρ => match toD ρ (nrm a) with
  | some (.str z, ρ1) => some (.ok (chars z), ρ1)
  | _ => none
theorem LI.str {R0 : It → Hp → Prop} (h : LI K mg W (itStr f) σ H R0) : iStr (LE K mg W f) σ H R0 := by
  obtain ⟨ρ, F, r, ρ', rs, e, q⟩ := h
  refine LE.opnd (k := fun a => fun ρ => match toD ρ a with
    | some (.str z, ρ1) => some (.ok (chars z), ρ1)
    | _ => none) rs e (fun x hx => by subst hx; exact q) fun a v ρ1 F1 H1 rs1 g1 ro e1 => ?_
  cases ea : toD ρ1 a with
  | none => rw [ea] at e1; cases e1
  | some z =>
    obtain ⟨x, ρ2⟩ := z
    rw [ea] at e1
    obtain ⟨F2, rs2, g2, rp⟩ := toD_ok rs1 ro ea
    cases x with
    | str z =>
      cases e1
      cases rp
      exact ⟨z, rfl, q F2 H1 _ rs2 (g1.trans g2) gives_str⟩
    | _ => cases e1
theorem pi_strD {X : Cx} {J : Lk} {tg l : Expr} (hl : PE X l (LE (kj J X) X.mg W f)) : PI X tg l (LI (kj J X) X.mg W (itStr f)) := PI.imp (pi_str hl) fun _ _ _ h => LI.str h
end
section
variable {ρ : Env} {f fa fb fc : DE} {x y : D} {xs ys : List D} {Q : R → Env → Prop} {E : Exn → Env → Prop} {i j : Int} {P : R → Prop} {a z : Str}
@[simp] theorem wE_itStr {T : List D → Env → Prop} : wE (itStr f) ρ T E ↔ wE f ρ (fun a ρ1 => wP (toD ρ1 (nrm a)) fun p => wP (match p.1 with | .str z => some (chars z) | _ => none) fun ds => T ds p.2) E := by
  unfold wE itStr bE
  cases f ρ with
  | none => rfl
  | some w =>
    obtain ⟨r, ρ1⟩ := w
    cases r with
    | error x => rfl
    | ok a =>
      dsimp only
      cases toD ρ1 (nrm a) with
      | none => rfl
      | some w =>
        obtain ⟨x, ρ2⟩ := w
        cases x <;> rfl
/-- a text in a text -/
def inS (a z : Str) : Bool := !(Builtin.Str.occurrences z a 0 z.length 1).isEmpty
@[simp] theorem k_in3_s : wP (kIn3 (.str a) (.str z)) P ↔ P (.d (.bl (inS a z))) := Iff.rfl
@[simp] theorem k_ni3_s : wP (kNi3 (.str a) (.str z)) P ↔ P (.d (.bl !inS a z)) := Iff.rfl
theorem k_g2K {kvs : List (Key × D)} (hy : noOwn y = true) : wP (kGet2' (.dK kvs) [.str z, y]) P ↔ P (.d ((valA kvs (.inr z)).getD y)) := by
  show wP (if noOwn y = true then ((keyOf (.str z)).map fun k => valA kvs k).map fun o => R.d (o.getD y) else none) P ↔ _
  rw [if_pos hy]
  rfl
theorem k_kget {kvs : List (Str × D)} (hy : noOwn y = true) : wP (kKGet kvs (.str z) y) P ↔ P (.d ((kvs.lookup z).getD y)) := by
  show wP (if noOwn y = true then some (R.d ((kvs.lookup z).getD y)) else none) P ↔ _
  rw [if_pos hy]
  rfl
/-! a chain of two comparisons of ints -/
def wBt (r : R) (P : Bool → Prop) : Prop := match r with
  | .d (.bl b) => P b
  | _ => False
@[simp] theorem wBt_b {b : Bool} {P : Bool → Prop} : wBt (.d (.bl b)) P ↔ P b := Iff.rfl
theorem wIs {r : Option R} {P : Bool → Prop} : (match r with
    | some (.d (.bl b)) => P b
    | _ => False) ↔ wP r fun r => wBt r P := by
  cases r with
  | none => rfl
  | some r =>
    cases r with
    | d x => cases x <;> rfl
    | _ => rfl
@[simp] theorem wE_ch {k1 k2 : D → D → Option R} : wE (xCh fa fb fc k1 k2) ρ Q E ↔ wE fa ρ (fun a ρ1 => wE fb ρ1 (fun b ρ2 => wP (pk ρ2 (nrm a)) fun x => wP (pk ρ2 (nrm b)) fun y => wP (k1 x y) fun r => wBt r fun t => if t = true then wE fc ρ2 (fun c ρ3 => wP (pk ρ3 (nrm b)) fun y => wP (pk ρ3 (nrm c)) fun z => wP (k2 y z) fun r => Q r ρ3) E else Q (.d (.bl false)) ρ2) E) E := by
  unfold wE xCh bE
  cases fa ρ with
  | none => rfl
  | some w =>
    obtain ⟨r, ρ1⟩ := w
    cases r with
    | error x => rfl
    | ok a =>
      dsimp only
      cases fb ρ1 with
      | none => rfl
      | some w =>
        obtain ⟨r, ρ2⟩ := w
        cases r with
        | error x => rfl
        | ok b =>
          dsimp only
          cases pk ρ2 (nrm a) with
          | none => rfl
          | some x =>
            cases pk ρ2 (nrm b) with
            | none => rfl
            | some y =>
              simp only [wP_some]
              cases k1 x y with
              | none => rfl
              | some r =>
                simp only [wP_some]
                cases r with
                | o _ => rfl
                | s _ => rfl
                | d v =>
                  cases v with
                  | bl t =>
                    simp only [wBt_b]
                    cases t with
                    | false => rfl
                    | true =>
                      rw [if_pos rfl]
                      dsimp only
                      cases fc ρ2 with
                      | none => rfl
                      | some w =>
                        obtain ⟨r, ρ3⟩ := w
                        cases r with
                        | error x => rfl
                        | ok c =>
                          dsimp only
                          cases pk ρ3 (nrm b) with
                          | none => rfl
                          | some y =>
                            cases pk ρ3 (nrm c) with
                            | none => rfl
                            | some z =>
                              simp only [wP_some]
                              cases k2 y z <;> rfl
                  | _ => rfl
end
end Dn
end

section
set_option Elab.async false
set_option linter.all false
set_option maxRecDepth 100000
set_option maxHeartbeats 4000000
/-! Dn: tests of a dict of the module; conditions of module dicts. -/
namespace Dn
open PySem PySem.Spec PyProof.Rows L2
section
variable {W : WX} {J : Lk} {f : DE}
theorem pt_kin {X : Cx} {nm : Str} {e : Expr} {p pos : Pos} {fe : DE} {kvs : List (Str × D)} (T : KdI X.K X.w X.mg nm kvs) (hg : Gl X nm) (he : PE X e (LE (kj J X) X.mg W fe)) (hd : (nm == ("__debug__" : Str)) = false := by decide) (hm : behindInMarks .In (.Name nm p) = false := by with_unfolding_all rfl) :
    PT X (.Compare e [.In] [.Name nm p] pos) (LT (kj J X) X.mg W (tB (o1 fe (kKIn true kvs)))) := by
  obtain ⟨a, gm, h1, _⟩ := kIn_ok T
  refine PT.imp (pt_cmpR h1 he (pe_glob (v := .ref a) hg gm rfl hd) hm) fun σ H Q h => LE.one (LT.bool h) fun x res v ρ F H rs hx e q => ?_
  unfold kKIn at e
  split at e
  · cases e
    cases hx.str
    exact ⟨_, rfl, rfl, q.dat rs (.bl _)⟩
  · cases e
theorem pt_kni {X : Cx} {nm : Str} {e : Expr} {p pos : Pos} {fe : DE} {kvs : List (Str × D)} (T : KdI X.K X.w X.mg nm kvs) (hg : Gl X nm) (he : PE X e (LE (kj J X) X.mg W fe)) (hd : (nm == ("__debug__" : Str)) = false := by decide) (hm : behindInMarks .NotIn (.Name nm p) = false := by with_unfolding_all rfl) :
    PT X (.Compare e [.NotIn] [.Name nm p] pos) (LT (kj J X) X.mg W (tB (o1 fe (kKIn false kvs)))) := by
  obtain ⟨a, gm, _, h1⟩ := kIn_ok T
  refine PT.imp (pt_cmpR h1 he (pe_glob (v := .ref a) hg gm rfl hd) hm) fun σ H Q h => LE.one (LT.bool h) fun x res v ρ F H rs hx e q => ?_
  unfold kKIn at e
  split at e
  · cases e
    cases hx.str
    exact ⟨_, rfl, rfl, q.dat rs (.bl _)⟩
  · cases e
end
section
variable {P : R → Prop} {z : Str} {kvs : List (Str × D)} {b : Bool}
@[simp] theorem k_kix : wP (kKIx kvs (.str z)) P ↔ wP (kvs.lookup z) fun d => P (.d d) := wP_map
@[simp] theorem k_kin : wP (kKIn b kvs (.str z)) P ↔ P (.d (.bl (if b then (kvs.lookup z).isSome else !(kvs.lookup z).isSome))) := Iff.rfl
end
end Dn
end

section
set_option Elab.async false
set_option linter.all false
set_option maxRecDepth 100000
set_option maxHeartbeats 4000000
/-! Dn: list of a text; join of a text's signs. -/
namespace Dn
open PySem PySem.Spec PyProof.Rows L2
section
variable {X : Cx}
def signV (z : Str) : List V := z.cps.toList.map fun c => V.str ⟨#[c]⟩
theorem vals_get : ∀ {xs : List V} {us : List Value}, xs.length = us.length → (∀ (j : Nat) (x : V) (v : Value), xs[j]? = some x → us[j]? = some v → RelV x v) → Vals xs us
  | [], [], _, _ => .nil
  | x :: xs, u :: us, hl, h => .cons (h 0 x u rfl rfl) (vals_get (by simpa using hl) fun j y v h1 h2 => h (j + 1) y v h1 h2)
  | [], _ :: _, hl, _ => by simp at hl
  | _ :: _, [], hl, _ => by simp at hl
theorem vals_signs {z : Str} {acc : Array Value} (h : ItemsOf (SignAt z) acc z.cps.size) : Vals (signV z) acc.toList := by
  refine vals_get (by simp [signV, h.1]) fun j x v h1 h2 => ?_
  obtain ⟨c, u, ec, rfl⟩ := h.2 j v (by rw [← h2]; simp)
  unfold signV at h1
  rw [List.getElem?_map, Array.getElem?_toList, ec] at h1
  cases h1
  exact ⟨u, rfl⟩
theorem call_list_strV (hc : X.calm = true) : CallR X (.type "list") (fun xs H Q => ∃ z, xs = [.str z] ∧ z.length ≤ sizeLine ∧ ∀ l, H l = none → Q (.ref l) (upd H l (.lst (signV z)))) := by
  intro pins s σ H xs us Q I r h
  obtain ⟨z, rfl, hz, q⟩ := h
  obtain ⟨u, rfl, t, rfl⟩ := vals1 r
  have hh := I.ok.hd hc
  refine call_list_str hh z t (fun h' tk acc' c' kp e hi => ?_) hz
  have hl : (signV z).length ≤ sizeLine := by
    have : (signV z).length = z.cps.size := by simp [signV]
    rw [this]
    exact hz
  exact ⟨.ref s.heap.objs.size, _, I.laid (t' := tk) kp (Nat.le_refl _) (show ObjOk X.prog X.w _ h' _ (.lst (signV z)) from ⟨hl, acc'.toList, c', vals_signs hi, by simpa using e⟩), rfl, q _ (I.hok.fresh (Nat.le_refl _))⟩
/-- list, of a text too -/
def kListS : List D → Option R
  | [.str z] => if z.length ≤ sizeLine then some (.o (.lst (chars z))) else none
  | xs => kList xs
theorem reps_chars {K : Fg} {F : Hp} {z : Str} : Reps K F (chars z) (signV z) := by
  unfold chars signV
  induction z.cps.toList with
  | nil => exact .nil
  | cons c l ih => exact .cons (.str _) ih
theorem cf_listS (hc : X.calm = true) : CallF X (.type "list") kListS := by
  obtain ⟨r, C1, C2⟩ := cf_list (X := X)
  refine ⟨_, CallR.or (call_list_strV hc) C1, ?_⟩
  intro J σ xs res vs ρ F H rs pk e Q q
  unfold kListS at e
  split at e
  · split at e
    · rename_i hz
      cases e
      obtain ⟨v, rfl, h⟩ := pk.one
      cases h.str
      exact .inl ⟨_, rfl, hz, FinR.lst q rs reps_chars⟩
    · cases e
  · exact .inr (C2 xs res vs ρ F H rs pk e Q q)
theorem mt_joinV (hc : X.calm = true) : MtR X "str.join" (fun x xs H Q => ∃ a z, x = .str a ∧ xs = [.str z] ∧ z.length + z.length * a.length ≤ 16777216 ∧ Q (.str (Txt.join a (PyProof.Rows.signs z))) H) := by
  intro pins s σ H x xs v us Q I rx rs h
  obtain ⟨a, z, rfl, rfl, hz, h⟩ := h
  obtain ⟨t, rfl⟩ := rx
  obtain ⟨u, rfl, t2, rfl⟩ := vals1 rs
  have hh := I.ok.hd hc
  have hok : JoinOk a (PyProof.Rows.signs z) = true := joinOk_signsN (N := z.length) (S := a.length) (Nat.le_refl _) (Nat.le_refl _) hz
  exact SC.joinStr hh hok fun h' k t' hk => ⟨.str _, H, (I.kept (t' := k) hk), ⟨t', rfl⟩, h⟩
theorem join_rel {J : Lk} {σ : L2.St} (x : D) (xs : List D) (res : R) (v : V) (vs : List V) (ρ : Env) (F H : Hp) (rs : RS (kj J X) σ ρ F H) (hx : PK (kj J X) F H x v) (hy : PKs (kj J X) F H xs vs) (e : kJoin x xs = some res) (Q : VK) (q : FinR (kj J X) σ ρ F H res Q) :
    ∃ a p, ∃ ys : List Str, v = .str a ∧ vs = [.ref p] ∧ (SqL X.K H p (ys.map V.str) ∨ SqT X.K H p (ys.map V.str)) ∧ (ys.map (·.length)).sum + ys.length * a.length ≤ 16777216 ∧ Q (.str (Txt.join a ys)) H := by
  unfold kJoin at e
  split at e
  · rename_i a ds
    cases z : strsOf ds with
    | none => rw [z] at e; cases e
    | some ys =>
      rw [z] at e
      dsimp only at e
      split at e
      · rename_i hc
        cases e
        cases hx.str
        obtain ⟨v, rfl, h⟩ := hy.one
        obtain ⟨p, us, rfl, ha, ra⟩ := h.lst rs.sub
        have := ra.strsOf z
        subst this
        exact ⟨_, _, _, rfl, rfl, .inl (SqL.of ha), hc, q.dat rs (.str _)⟩
      · cases e
  · rename_i a ds
    cases z : strsOf ds with
    | none => rw [z] at e; cases e
    | some ys =>
      rw [z] at e
      dsimp only at e
      split at e
      · rename_i hc
        cases e
        cases hx.str
        obtain ⟨v, rfl, h⟩ := hy.one
        obtain ⟨p, us, rfl, ha, ra⟩ := h.tup rs.sub
        have := ra.strsOf z
        subst this
        exact ⟨_, _, _, rfl, rfl, .inr ha, hc, q.dat rs (.str _)⟩
      · cases e
  · cases e
/-- join, of a text too -/
def kJoinS : D → List D → Option R
  | .str a, [.str z] => if z.length + z.length * a.length ≤ 16777216 then some (.d (.str (Txt.join a (PyProof.Rows.signs z)))) else none
  | x, xs => kJoin x xs
theorem mf_joinS (hc : X.calm = true) : MtF X "str" "join" kJoinS := by
  refine ⟨_, _, PySem.F.plainAttrs_str, PySem.F.slot_str_join, PySem.F.type_str_join, MtR.or (mt_joinV hc) mt_join, ?_⟩
  intro J σ x xs res v vs ρ F H rs hx hy e Q q
  unfold kJoinS at e
  split at e
  · split at e
    · rename_i hz
      cases e
      cases hx.str
      obtain ⟨v, rfl, h⟩ := hy.one
      cases h.str
      exact .inl ⟨_, _, rfl, rfl, hz, q.dat rs (.str _)⟩
    · cases e
  · exact .inr (join_rel x xs res v vs ρ F H rs hx hy e Q q)
end
section
variable {P : R → Prop} {xs : List D} {ns : List Int} {a z : Str}
@[simp] theorem k_listS_s : wP (kListS [.str z]) P ↔ z.length ≤ sizeLine ∧ P (.o (.lst (chars z))) := wP_ite
@[simp] theorem k_listS_t : kListS [.tup xs] = kList [.tup xs] := rfl
@[simp] theorem k_listS_l : kListS [.lst xs] = kList [.lst xs] := rfl
@[simp] theorem k_listS_n : kListS [.src ns] = kList [.src ns] := rfl
@[simp] theorem m_joinS_s : wP (kJoinS (.str a) [.str z]) P ↔ z.length + z.length * a.length ≤ 16777216 ∧ P (.d (.str (Txt.join a (PyProof.Rows.signs z)))) := wP_ite
@[simp] theorem m_joinS_t : kJoinS (.str a) [.tup xs] = kJoin (.str a) [.tup xs] := rfl
@[simp] theorem m_joinS_l : kJoinS (.str a) [.lst xs] = kJoin (.str a) [.lst xs] := rfl
end
end Dn
end

section
set_option Elab.async false
set_option linter.all false
set_option maxRecDepth 100000
set_option maxHeartbeats 4000000
/-! common texts: draws -/
namespace Dn.C
open PySem PySem.Spec L2 Dn
def G__law_box : DS :=
    (sSeq (sSet 2 (o2 (o2 (xC (.int 6089)) (xVar 1) kMul) (xC (.int 57)) kAdd))
    (sSeq (sIf (tB (o2 (xVar 1) (oN [(xVar 0)] kLen) kLt)) (sSeq (sSet 2 (oN [(o2 (xVar 0) (xVar 1) kIx2)] kAbs))
    sSkip) (sSeq (sIf (tB (o2 (oN [(xVar 0)] kLen) (xC (.int 0)) kGt)) (sSeq (sSet 2 (o2 (xVar 2) (o2 (o2 (oN [(o2 (xVar 0) (o2 (xVar 1) (oN [(xVar 0)] kLen) kMod) kIx2)] kAbs) (xC (.int 2147483629)) kMod) (xC (.int 69653)) kMul) kAdd))
    sSkip) sSkip)
    sSkip))
    (sSeq (sSet 3 (o2 (o2 (o2 (o2 (o2 (xVar 2) (xC (.int 2147483629)) kMod) (xC (.int 48281)) kMul) (o2 (xC (.int 40693)) (xVar 1) kMul) kAdd) (xC (.int 2147483629)) kMod) (xC (.int 1)) kAdd))
    (sSeq (sRet (xLst [(o2 (xLst [(xC (.int 0)), (xVar 2)]) (oN [(o2 (xVar 2) (o2 (xC (.int 10)) (xC (.int 18)) kPow) kGe)] kInt) kIx2), (xVar 3), (xC (.int 0))]))
    sSkip))))
def F__law_box : FD := fnF [true, true] 4 G__law_box
def G__law_take : DS :=
    (sSeq (sIf (tB (o2 (o2 (xVar 0) (xC (.int 0)) kIx2) (xC (.int 0)) kGt)) (sSeq (sSet 3 (o2 (o2 (xVar 0) (xC (.int 0)) kIx2) (xVar 1) kMod))
    (sSeq (sSt2 (o2 (o2 (xVar 0) (xC (.int 0)) kIx2) (xVar 1) kDiv) (xVar 0) (xC (.int 0)))
    (sSeq (sRet (xVar 3))
    sSkip))) sSkip)
    (sSeq (sSt2 (o2 (o2 (xVar 0) (xC (.int 2)) kIx2) (xC (.int 1)) kAdd) (xVar 0) (xC (.int 2)))
    (sSeq (sSet 2 (o2 (o2 (o2 (o2 (xVar 0) (xC (.int 1)) kIx2) (o2 (xC (.int 104743)) (o2 (xVar 0) (xC (.int 2)) kIx2) kMul) kAdd) (xC (.int 69623)) kMul) (xC (.int 2147483647)) kMod))
    (sSeq (sSt2 (o2 (o2 (o2 (o2 (xVar 2) (xC (.int 48281)) kMul) (xC (.int 30109)) kAdd) (xC (.int 2147483629)) kMod) (xC (.int 1)) kAdd) (xVar 0) (xC (.int 1)))
    (sSeq (sRet (o2 (o2 (o2 (o2 (xVar 2) (xC (.int 2147483647)) kMul) (o2 (xVar 0) (xC (.int 1)) kIx2) kAdd) (xC (.int 8191)) kDiv) (xVar 1) kMod))
    sSkip)))))
def F__law_take : FD := fnF [true, true] 4 G__law_take
def G__law_pick (F__law_take : FD) : DS :=
    (sSeq (sRet (o2 (xVar 1) (dCall F__law_take [(xVar 0), (oN [(xVar 1)] kLen)] []) kIx2))
    sSkip)
def F__law_pick : FD := fnF [true, true] 2 (G__law_pick F__law_take)
def G__law_mixed (F__law_take : FD) : DS :=
    (sSeq (sPar [2, 3] [(oN [(xVar 1)] kListS), (xLst [])])
    (sSeq (sFor (itN [(oN [(xVar 2)] kLen)] kRng1) (gNm 4) (sSeq (sExp (mO (xVar 3) [(mO (xVar 2) [(dCall F__law_take [(xVar 0), (oN [(xVar 2)] kLen)] [])] oPop)] oAppend))
    sSkip))
    (sSeq (sRet (xVar 3))
    sSkip)))
def F__law_mixed : FD := fnF [true, true] 5 (G__law_mixed F__law_take)
def G__law_names (F__law_mixed F__law_take : FD) : DS :=
    (sSeq (sAsg (xTup [(xC (.str "abcdefghijklmnopqrstuvwxyz")), (dCall F__law_take [(xVar 0), (xC (.int 5))] [])]) (gTp [(gNm 2), (gNm 3)]))
    (sSeq (sIf (tB (o2 (xVar 3) (xC (.int 0)) kEq)) (sSeq (sSet 9 (mR "str" (xC (.str "lay lift share empty hold group take pass try stop")) [(xC (.str " "))] kSplit))
    (sSeq (sSet 9 (o2 (xVar 9) (mR "str" (xC (.str "call slots undo found up trail left fate slot")) [(xC (.str " "))] kSplit) kAdd))
    (sSeq (sSet 6 (dCall F__law_take [(xVar 0), (xC (.int 19))] []))
    (sSeq (sRet (dCall F__law_mixed [(xVar 0), (xSl (o2 (xVar 9) (xVar 9) kAdd) (eI (xVar 6)) (eI (o2 (xVar 6) (xVar 1) kAdd)))] []))
    sSkip)))) sSkip)
    (sSeq (sSet 4 (mR "str" (xC (.str "")) [(xLc (itN [(dCall F__law_take [(xVar 0), (xC (.int 5))] [])] kRng1) [11] (gNm 11) (rE true) (o2 (xVar 2) (dCall F__law_take [(xVar 0), (xC (.int 26))] []) kIx2))] kJoinS))
    (sSeq (sIf (tAn (tB (o2 (xVar 3) (xC (.int 1)) kEq)) (tB (o2 (xVar 1) (xC (.int 7)) kLt))) (sSeq (sRet (dCall F__law_mixed [(xVar 0), (xLc (itN [(xVar 1)] kRng1) [8] (gNm 8) (rE true) (xSl (o2 (xSl (xVar 4) eNo (eI (xC (.int 1)))) (xC (.str "qvkzjx")) kAdd) eNo (eI (o2 (xVar 8) (xC (.int 1)) kAdd))))] []))
    sSkip) sSkip)
    (sSeq (sAsg (xTup [(dCall F__law_take [(xVar 0), (o2 (oN [(xVar 4)] kLen) (xC (.int 1)) kAdd)] []), (dCall F__law_take [(xVar 0), (xC (.int 26))] [])]) (gTp [(gNm 5), (gNm 6)]))
    (sSeq (sIf (tB (o2 (xVar 3) (xC (.int 2)) kEq)) (sSeq (sRet (dCall F__law_mixed [(xVar 0), (xLc (itN [(xVar 1)] kRng1) [8] (gNm 8) (rE true) (o2 (xSl (o2 (xVar 4) (xC (.str "qvkzj")) kAdd) eNo (eI (xC (.int 5)))) (o2 (xVar 2) (o2 (o2 (xVar 6) (o2 (xC (.int 7)) (xVar 8) kMul) kAdd) (xC (.int 26)) kMod) kIx2) kAdd))] []))
    sSkip) sSkip)
    (sSeq (sSet 7 (xLst []))
    (sSeq (sFor (itN [(xVar 1)] kRng1) (gNm 8) (sSeq (sSet 10 (o2 (xVar 2) (o2 (o2 (xVar 6) (o2 (xC (.int 7)) (xVar 8) kMul) kAdd) (xC (.int 26)) kMod) kIx2))
    (sSeq (sExp (mO (xVar 7) [(o2 (o2 (o2 (xSl (xVar 4) eNo (eI (xVar 5))) (xVar 10) kAdd) (xSl (xVar 4) (eI (xVar 5)) eNo) kAdd) (o2 (xVar 10) (o2 (xVar 8) (xC (.int 2)) kMod) kMul) kAdd)] oAppend))
    sSkip)))
    (sSeq (sRet (dCall F__law_mixed [(xVar 0), (xVar 7)] []))
    sSkip)))))))))
def F__law_names : FD := fnF [true, true] 12 (G__law_names F__law_mixed F__law_take)
def G__law_world (F__law_names F__law_take : FD) : DS :=
    (sSeq (sSet 3 (dCall F__law_names [(xVar 0), (o2 (xC (.int 1)) (dCall F__law_take [(xVar 0), (xVar 1)] []) kAdd)] []))
    (sSeq (sIf (tB (o2 (dCall F__law_take [(xVar 0), (xC (.int 4))] []) (xC (.int 0)) kEq)) (sSeq (sRet (xTup [(xVar 3), (xSl (xVar 3) eNo (eI (o2 (xC (.int 1)) (dCall F__law_take [(xVar 0), (oN [(xVar 2), (oN [(xVar 3)] kLen)] kMin2)] []) kAdd)))]))
    sSkip) sSkip)
    (sSeq (sRet (xTup [(xVar 3), (dCall F__law_names [(xVar 0), (o2 (xC (.int 1)) (dCall F__law_take [(xVar 0), (xVar 2)] []) kAdd)] [])]))
    sSkip)))
def F__law_world : FD := fnF [true, true, true] 4 (G__law_world F__law_names F__law_take)
end Dn.C
end

section
set_option Elab.async false
set_option linter.all false
set_option maxRecDepth 100000
set_option maxHeartbeats 4000000
/-! common texts: deeds -/
namespace Dn.C
open PySem PySem.Spec L2 Dn
def K_LETTERS : D := (.str "abcdefghijklmnopqrstuvwxyz")
def K_NAME_LENGTH : D := (.int 6)
def DK_WORDS : List (Str × D) := [("lay", (.int 3)), ("lift", (.int 3)), ("share", (.int 3)), ("empty", (.int 2))]
def G_is_name : DS :=
    (sSeq (sIf (tOrr (tNo (tV (o1 (xVar 0) (kIsi ["str"])))) (tNo (tB (xCh (xC (.int 1)) (oN [(xVar 0)] kLen) (xC K_NAME_LENGTH) kLe kLe)))) (sSeq (sRet (xC (.bl false)))
    sSkip) sSkip)
    (sSeq (sRet (oN [(xLc (itStr (xVar 0)) [1] (gNm 1) (rE true) (o2 (xVar 1) (xC K_LETTERS) kIn3))] kAll))
    sSkip))
def F_is_name : FD := fnF [true] 2 G_is_name
def G_is_deed (F_is_name : FD) : DS :=
    (sSeq (sIf (tOrr (tNo (tV (o1 (xVar 0) (kIsi ["tuple"])))) (tOrr (tB (o2 (oN [(xVar 0)] kLen) (xC (.int 2)) kLt)) (tNo (tV (o1 (o2 (xVar 0) (xC (.int 0)) kIx2) (kIsi ["str"])))))) (sSeq (sRet (xC (.bl false)))
    sSkip) sSkip)
    (sSeq (sIf (tB (o2 (o2 (o2 (xVar 0) (xC (.int 0)) kIx2) (xC (.int 0)) (kKGet DK_WORDS)) (oN [(xVar 0)] kLen) kNe)) (sSeq (sRet (xC (.bl false)))
    sSkip) sSkip)
    (sSeq (sRet (oN [(xLc (itSeq (xSl (xVar 0) (eI (xC (.int 1))) eNo)) [1] (gNm 1) (rE true) (dCall F_is_name [(xVar 1)] []))] kAll))
    sSkip)))
def F_is_deed : FD := fnF [true] 2 (G_is_deed F_is_name)
def G_pair_of : DS :=
    (sSeq (sRet (xIf (tB (o2 (o2 (xVar 0) (xC (.int 0)) kIx2) (xTup [(xC (.str "lay")), (xC (.str "lift"))]) kIn3)) (xSl (xVar 0) (eI (xC (.int 1))) eNo) (xC .non)))
    sSkip)
def F_pair_of : FD := fnF [true] 1 G_pair_of
def G_check_deeds (F_pair_of F_is_deed : FD) : DS :=
    (sSeq (sIf (tNo (tV (o1 (xVar 0) (kIsi ["tuple", "list"])))) (sSeq (sRaise "NoDeed" ["at"] [(o1 (xC (.int 1)) kNeg)])
    sSkip) sSkip)
    (sSeq (sFor (itD (xVar 0) kEnumA) (gTp [(gNm 1), (gNm 2)]) (sSeq (sIf (tNo (tV (dCall F_is_deed [(xVar 2)] []))) (sSeq (sRaise "NoDeed" ["at"] [(xVar 1)])
    sSkip) sSkip)
    sSkip))
    (sSeq (sSet 3 xDT)
    (sSeq (sFor (itD (xVar 0) kEnumA) (gTp [(gNm 1), (gNm 2)]) (sSeq (sSet 4 (dCall F_pair_of [(xVar 2)] []))
    (sSeq (sIf (tB (o2 (xVar 4) (xC .non) (kIs false))) (sSeq (sIf (tB (o2 (mG isDct (xVar 3) [(xVar 4)] kGet1) (o2 (xVar 2) (xC (.int 0)) kIx2) kEq)) (sSeq (sRaise "Irregular" ["at"] [(xVar 1)])
    sSkip) sSkip)
    (sSeq (sSt2 (o2 (xVar 2) (xC (.int 0)) kIx2) (xVar 3) (xVar 4))
    sSkip)) sSkip)
    sSkip)))
    (sSeq (sRet (xC (.bl true)))
    sSkip)))))
def F_check_deeds : FD := fnF [true] 5 (G_check_deeds F_pair_of F_is_deed)
def G_format_deeds : DS :=
    (sSeq (sRet (xIf (tB (o2 (oN [(xVar 0)] kLen) (xC (.int 0)) kGt)) (mR "str" (xC (.str " ; ")) [(xLc (itSeq (xVar 0)) [1] (gNm 1) (rE true) (mR "str" (xC (.str " ")) [(xVar 1)] kJoinS))] kJoinS) (xC (.str "-"))))
    sSkip)
def F_format_deeds : FD := fnF [true] 2 G_format_deeds
def G_parse_deeds (F_check_deeds F_is_deed : FD) : DS :=
    (sSeq (sIf (tB (o2 (xVar 0) (xC (.str "-")) kEq)) (sSeq (sRet (xTup []))
    sSkip) sSkip)
    (sSeq (sSet 1 (xLst []))
    (sSeq (sFor (itD (mR "str" (xVar 0) [(xC (.str " ; "))] kSplit) kEnumA) (gTp [(gNm 2), (gNm 3)]) (sSeq (sSet 4 (oN [(mR "str" (xVar 3) [(xC (.str " "))] kSplit)] kTuple))
    (sSeq (sIf (tNo (tV (dCall F_is_deed [(xVar 4)] []))) (sSeq (sRaise "NoText" ["at"] [(xVar 2)])
    sSkip) sSkip)
    (sSeq (sExp (mO (xVar 1) [(xVar 4)] oAppend))
    sSkip))))
    (sSeq (sExp (dCall F_check_deeds [(xVar 1)] []))
    (sSeq (sRet (oN [(xVar 1)] kTuple))
    sSkip)))))
def F_parse_deeds : FD := fnF [true] 5 (G_parse_deeds F_check_deeds F_is_deed)
def G__law_deed (F__law_pick F__law_take : FD) : DS :=
    (sSeq (sAsg (xVar 1) (gTp [(gNm 3), (gNm 4)]))
    (sSeq (sPar [5, 6, 7] [(dCall F__law_pick [(xVar 0), (xVar 3)] []), (dCall F__law_pick [(xVar 0), (xVar 4)] []), (dCall F__law_take [(xVar 0), (xC (.int 12))] [])])
    (sSeq (sIf (tB (o2 (xVar 7) (xC (.int 0)) kEq)) (sSeq (sRet (xTup [(xC (.str "share")), (dCall F__law_pick [(xVar 0), (xVar 4)] []), (xVar 6)]))
    sSkip) sSkip)
    (sSeq (sIf (tAn (tB (o2 (xVar 7) (xC (.int 1)) kEq)) (tB (o2 (dCall F__law_take [(xVar 0), (xC (.int 2))] []) (xC (.int 0)) kEq))) (sSeq (sRet (xTup [(xC (.str "empty")), (xVar 6)]))
    sSkip) sSkip)
    (sSeq (sSet 8 (mG isDct (xVar 2) [(xTup [(xVar 5), (xVar 6)]), (o2 (xLst [(xC (.str "up")), (xC (.str "down")), (xC (.str "down"))]) (dCall F__law_take [(xVar 0), (xC (.int 3))] []) kIx2)] kGet2'))
    (sSeq (sSt2 (o2 (xLst [(xC (.str "up")), (xC (.str "down"))]) (oN [(o2 (xVar 8) (xC (.str "up")) kEq)] kInt) kIx2) (xVar 2) (xTup [(xVar 5), (xVar 6)]))
    (sSeq (sRet (xTup [(o2 (xLst [(xC (.str "lay")), (xC (.str "lift"))]) (oN [(o2 (xVar 8) (xC (.str "up")) kEq)] kInt) kIx2), (xVar 5), (xVar 6)]))
    sSkip)))))))
def F__law_deed : FD := fnF [true, true, true] 9 (G__law_deed F__law_pick F__law_take)
def G__law_row (F__law_take F__law_deed : FD) : DS :=
    (sSeq (sPar [3, 4] [xDT, (xLst [])])
    (sSeq (sFor (itN [(dCall F__law_take [(xVar 0), (o2 (xVar 2) (xC (.int 1)) kAdd)] [])] kRng1) (gNm 5) (sSeq (sExp (mO (xVar 4) [(dCall F__law_deed [(xVar 0), (xVar 1), (xVar 3)] [])] oAppend))
    sSkip))
    (sSeq (sRet (xVar 4))
    sSkip)))
def F__law_row : FD := fnF [true, true, true] 6 (G__law_row F__law_take F__law_deed)
def G__law_spoilt (F__law_pick F__law_take F__law_spoilt : FD) : DS :=
    (sSeq (sIf (tOrr (tNo (tV (o1 (xVar 1) (kIsi ["tuple", "list"])))) (tOrr (tB (o2 (oN [(xVar 1)] kLen) (xC (.int 0)) kEq)) (tB (o2 (dCall F__law_take [(xVar 0), (xC (.int 9))] []) (xC (.int 0)) kEq)))) (sSeq (sRet (dCall F__law_pick [(xVar 0), (xVar 2)] []))
    sSkip) sSkip)
    (sSeq (sPar [3, 4, 5] [(oN [(xVar 1)] kListS), (dCall F__law_take [(xVar 0), (oN [(xVar 1)] kLen)] []), (dCall F__law_take [(xVar 0), (xC (.int 9))] [])])
    (sSeq (sIf (tB (o2 (xVar 5) (xC (.int 5)) kLt)) (sSeq (sSt2 (dCall F__law_spoilt [(xVar 0), (o2 (xVar 3) (xVar 4) kIx2), (xVar 2)] []) (xVar 3) (xVar 4))
    sSkip) (sSeq (sIf (tB (o2 (xVar 5) (xC (.int 5)) kEq)) (sSeq (sExp (mO (xVar 3) [(xVar 4)] oPop))
    sSkip) (sSeq (sIf (tB (o2 (xVar 5) (xC (.int 6)) kEq)) (sSeq (sExp (mO (xVar 3) [(xVar 4), (dCall F__law_pick [(xVar 0), (xVar 2)] [])] oInsert))
    sSkip) (sSeq (sIf (tB (o2 (xVar 5) (xC (.int 7)) kEq)) (sSeq (sExp (mO (xVar 3) [(xVar 4), (o2 (xVar 3) (xVar 4) kIx2)] oInsert))
    sSkip) (sSeq (sSlS (o1 (xSl (xVar 3) (eI (xVar 4)) (eI (o2 (xVar 4) (xC (.int 2)) kAdd))) kRev) (xVar 3) (xVar 4) (o2 (xVar 4) (xC (.int 2)) kAdd))
    sSkip))
    sSkip))
    sSkip))
    sSkip))
    (sSeq (sRet (xIf (tV (o1 (xVar 1) (kIsi ["list"]))) (xVar 3) (oN [(xVar 3)] kTuple)))
    sSkip))))
def F__law_spoilt : Nat → FD
  | 0 => fun _ => none
  | n + 1 => fnF [true, true, true] 6 (G__law_spoilt F__law_pick F__law_take (F__law_spoilt n))
def G__law_is_name : DS :=
    (sSeq (sIf (tOrr (tNo (tV (o1 (xVar 0) (kIsi ["str"])))) (tNo (tB (xCh (xC (.int 1)) (oN [(xVar 0)] kLen) (xC (.int 6)) kLe kLe)))) (sSeq (sRet (xC (.bl false)))
    sSkip) sSkip)
    (sSeq (sRet (o2 (xLc (itStr (xVar 0)) [1] (gNm 1) (tB (o2 (xVar 1) (xC (.str "abcdefghijklmnopqrstuvwxyz")) kNi3)) (xVar 1)) (xLst []) kEq))
    sSkip))
def F__law_is_name : FD := fnF [true] 2 G__law_is_name
def G__law_is_deed (F__law_is_name : FD) : DS :=
    (sSeq (sIf (tOrr (tNo (tV (o1 (xVar 0) (kIsi ["tuple"])))) (tOrr (tB (o2 (oN [(xVar 0)] kLen) (xC (.int 0)) kEq)) (tNo (tV (o1 (o2 (xVar 0) (xC (.int 0)) kIx2) (kIsi ["str"])))))) (sSeq (sRet (xC (.bl false)))
    sSkip) sSkip)
    (sSeq (sSet 1 (mG isDct (xDisp [("lay", .int 3), ("lift", .int 3), ("share", .int 3), ("empty", .int 2)]) [(o2 (xVar 0) (xC (.int 0)) kIx2), (xC (.int 0))] kGet2'))
    (sSeq (sRet (xAnd (o2 (oN [(xVar 0)] kLen) (xVar 1) kEq) (o2 (xLc (itSeq (xSl (xVar 0) (eI (xC (.int 1))) eNo)) [2] (gNm 2) (tNo (tV (dCall F__law_is_name [(xVar 2)] []))) (xVar 2)) (xLst []) kEq)))
    sSkip)))
def F__law_is_deed : FD := fnF [true] 3 (G__law_is_deed F__law_is_name)
def G__law_first_irregular : DS :=
    (sSeq (sSet 1 xDT)
    (sSeq (sFor (itD (xVar 0) kEnumA) (gTp [(gNm 2), (gNm 3)]) (sSeq (sIf (tB (o2 (o2 (xVar 3) (xC (.int 0)) kIx2) (xTup [(xC (.str "lay")), (xC (.str "lift"))]) kIn3)) (sSeq (sIf (tB (o2 (mG isDct (xVar 1) [(xSl (xVar 3) (eI (xC (.int 1))) eNo)] kGet1) (o2 (xVar 3) (xC (.int 0)) kIx2) kEq)) (sSeq (sRet (xVar 2))
    sSkip) sSkip)
    (sSeq (sSt2 (o2 (xVar 3) (xC (.int 0)) kIx2) (xVar 1) (xSl (xVar 3) (eI (xC (.int 1))) eNo))
    sSkip)) sSkip)
    sSkip))
    (sSeq (sRet (xC .non))
    sSkip)))
def F__law_first_irregular : FD := fnF [true] 4 G__law_first_irregular
end Dn.C
end

section
set_option Elab.async false
set_option linter.all false
set_option maxRecDepth 100000
set_option maxHeartbeats 4000000
/-! what is drawn -/
namespace Dn.C
open PySem PySem.Spec L2 Dn
/-! what is drawn -/
def bx (a b c : Int) : S := .o (.lst [.int a, .int b, .int c])
section
variable {a b c m : Int} {Q : R → List S → Prop} {E : Exn → List S → Prop} {ds : List D}
theorem smallI_of {i : Int} (h0 : -18446744073709551616 < i) (h1 : i < 18446744073709551616) : smallI i = true := decide_eq_true ⟨h0, h1⟩
theorem take_w (hm : 0 < m) (hm2 : m < 1073741824) (h : ∀ i a' b' c', 0 ≤ i → i < m → Q (.d (.int i)) [bx a' b' c', .d (.int m)]) : wF F__law_take [bx a b c, .d (.int m)] Q E := by
  unfold F__law_take G__law_take bx
  rw [wF_fn]
  refine ⟨rfl, ?_⟩
  simp [atI_nn]
  have p1 : ∀ x : Int, 0 ≤ x % m ∧ x % m < m := fun x => ⟨Int.emod_nonneg _ (by omega), Int.emod_lt_of_pos _ hm⟩
  by_cases ha : 0 < a
  · rw [if_pos ha]
    exact ⟨hm, ⟨hm, hm2⟩, h _ _ _ _ (p1 a).1 (p1 a).2⟩
  · rw [if_neg ha]
    exact ⟨.inl rfl, .inr rfl, .inr rfl, .inr rfl, hm, h _ _ _ _ (p1 _).1 (p1 _).2⟩
theorem at_of {i : Int} (h0 : 0 ≤ i) (h1 : i < ds.length) : ∃ x ∈ ds, atI ds i = some x := by
  obtain ⟨k, rfl⟩ := Int.eq_ofNat_of_zero_le h0
  have hk : k < ds.length := by omega
  exact ⟨ds[k], List.getElem_mem hk, by rw [atI_nn, List.getElem?_eq_getElem hk]⟩
theorem pick_l (h0 : ds ≠ []) (hl : ds.length < 1073741824) (h : ∀ x ∈ ds, ∀ a' b' c', Q (.d x) [bx a' b' c', .d (.lst ds)]) : wF F__law_pick [bx a b c, .d (.lst ds)] Q E := by
  have hp := List.length_pos_iff.mpr h0
  unfold F__law_pick G__law_pick
  rw [wF_fn]
  refine ⟨rfl, ?_⟩
  simp [bx]
  refine take_w (m := (ds.length : Int)) (by omega) (by omega) fun i a' b' c' i0 i1 => ?_
  obtain ⟨x, hx, e⟩ := at_of i0 i1
  simp [bx, e]
  exact h x hx a' b' c'
theorem pick_o (h0 : ds ≠ []) (hl : ds.length < 1073741824) (h : ∀ x ∈ ds, ∀ a' b' c', Q (.d x) [bx a' b' c', .o (.lst ds)]) : wF F__law_pick [bx a b c, .o (.lst ds)] Q E := by
  have hp := List.length_pos_iff.mpr h0
  unfold F__law_pick G__law_pick
  rw [wF_fn]
  refine ⟨rfl, ?_⟩
  simp [bx]
  refine take_w (m := (ds.length : Int)) (by omega) (by omega) fun i a' b' c' i0 i1 => ?_
  obtain ⟨x, hx, e⟩ := at_of i0 i1
  simp [bx, e]
  exact h x hx a' b' c'
theorem era_perm {α : Type} : ∀ (L : List α) (k : Nat) (hk : k < L.length), ([L[k]] ++ L.eraseIdx k).Perm L
  | [], _, hk => absurd hk (by simp)
  | x :: L, 0, _ => List.Perm.refl _
  | x :: L, k + 1, hk => by
    have ih := era_perm L k (by simpa using hk)
    simp only [List.getElem_cons_succ, List.eraseIdx_cons_succ]
    exact (List.Perm.swap x _ _).trans (ih.cons x)
def MixI (s1 : S) (ds : List D) (r : List D) (ρ : Env) : Prop := ∃ a b c L G t, ρ = [some (bx a b c), some s1, some (.o (.lst L)), some (.o (.lst G)), t] ∧ L.length = r.length ∧ (G ++ L).Perm ds
theorem mixed_w {s1 : S} (hs : s1 = .d (.lst ds) ∨ s1 = .o (.lst ds)) (hl : ds.length < 1000000) (h : ∀ ys a' b' c', ys.Perm ds → Q (.d (.lst ys)) [bx a' b' c', s1]) : wF F__law_mixed [bx a b c, s1] Q E := by
  unfold F__law_mixed G__law_mixed
  rw [wF_fn]
  refine ⟨rfl, ?_⟩
  have st : ∃ L0, wS (forL (gNm 4)
      (sSeq (sExp (mO (xVar 3) [mO (xVar 2) [dCall F__law_take [xVar 0, oN [xVar 2] kLen] []] oPop] oAppend)) sSkip) (rng 0 ds.length)) [some (bx a b c), some s1, some (.o (.lst L0)), some (.o (.lst [])), none] (fun e ρ =>
      wNx e ρ (fun ρ => wS (sSeq (sRet (xVar 3)) sSkip) ρ fun e ρ => wR [true, true] [bx a b c, s1] e ρ Q E) fun e ρ => wR [true, true] [bx a b c, s1] e ρ Q E) ∧ L0 = ds := by
    refine ⟨ds, ?_, rfl⟩
    refine wS.forI (MixI s1 ds) ⟨a, b, c, ds, [], none, rfl, by simp [rng], by simp⟩ ?_ ?_
    · rintro ρ ⟨a, b, c, L, G, t, rfl, hL, hp⟩
      have : L = [] := List.eq_nil_of_length_eq_zero (by simpa using hL)
      subst this
      simp
      exact h G a b c (by simpa using hp)
    · rintro x r ρ ⟨a, b, c, L, G, t, rfl, hL, hp⟩
      have hlen := hp.length_eq
      simp at hL hlen
      simp [bx]
      refine take_w (m := (L.length : Int)) (by omega) (by omega) fun i a' b' c' i0 i1 => ?_
      obtain ⟨k, rfl⟩ := Int.eq_ofNat_of_zero_le i0
      have hk : k < L.length := by omega
      simp [bx]
      rw [o_popI rfl hk (by omega)]
      simp
      refine ⟨by rw [sizeLine_eq]; omega, a', b', c', L.eraseIdx k, G ++ [L[k]], some (.d x), rfl, ?_, ?_⟩
      · rw [List.length_eraseIdx_of_lt hk]
        omega
      · refine List.Perm.trans ?_ hp
        rw [List.append_assoc]
        refine List.Perm.append_left _ ?_
        exact era_perm L k hk
  obtain ⟨L0, st, rfl⟩ := st
  rcases hs with rfl | rfl
  · simp [bx] at st ⊢
    exact ⟨by omega, st⟩
  · simp [bx] at st ⊢
    exact ⟨by omega, st⟩
theorem pick2 {x y : D} {i : Int} (h : i = 0 ∨ i = 1) : ∃ z, (z = x ∨ z = y) ∧ atI [x, y] i = some z := by
  rcases h with rfl | rfl
  · exact ⟨x, .inl rfl, by simp⟩
  · exact ⟨y, .inr rfl, by simp⟩
def restB : DS := (sSeq (sSet 3 (o2 (o2 (o2 (o2 (o2 (xVar 2) (xC (.int 2147483629)) kMod) (xC (.int 48281)) kMul) (o2 (xC (.int 40693)) (xVar 1) kMul) kAdd) (xC (.int 2147483629)) kMod) (xC (.int 1)) kAdd))
    (sSeq (sRet (xLst [(o2 (xLst [(xC (.int 0)), (xVar 2)]) (oN [(o2 (xVar 2) (o2 (xC (.int 10)) (xC (.int 18)) kPow) kGe)] kInt) kIx2), (xVar 3), (xC (.int 0))]))
    sSkip))
theorem G_box : G__law_box = (sSeq (sSet 2 (o2 (o2 (xC (.int 6089)) (xVar 1) kMul) (xC (.int 57)) kAdd))
    (sSeq (sIf (tB (o2 (xVar 1) (oN [(xVar 0)] kLen) kLt)) (sSeq (sSet 2 (oN [(o2 (xVar 0) (xVar 1) kIx2)] kAbs))
    sSkip) (sSeq (sIf (tB (o2 (oN [(xVar 0)] kLen) (xC (.int 0)) kGt)) (sSeq (sSet 2 (o2 (xVar 2) (o2 (o2 (oN [(o2 (xVar 0) (o2 (xVar 1) (oN [(xVar 0)] kLen) kMod) kIx2)] kAbs) (xC (.int 2147483629)) kMod) (xC (.int 69653)) kMul) kAdd))
    sSkip) sSkip)
    sSkip)) restB)) := rfl
theorem box_w {ns : List Int} {k : Nat} (hk : k < 10) (h : ∀ a b c, Q (.o (.lst [.int a, .int b, .int c])) [.d (.src ns), .d (.int (k : Nat))]) : wF F__law_box [.d (.src ns), .d (.int (k : Nat))] Q E := by
  unfold F__law_box
  rw [G_box, wF_fn]
  refine ⟨rfl, ?_⟩
  have fin : ∀ cell : Int, wS restB [some (.d (.src ns)), some (.d (.int (k : Nat))), some (.d (.int cell)), none] fun c ρ => wR [true, true] [.d (.src ns), .d (.int (k : Nat))] c ρ Q E := by
    intro cell
    unfold restB
    simp
    refine ⟨.inr rfl, .inl rfl, ?_⟩
    obtain ⟨z, hz, e⟩ := pick2 (x := D.int 0) (y := D.int cell) (i := if (1000000000000000000 : Int) ≤ cell then 1 else 0) (by split <;> simp)
    rw [e]
    rcases hz with rfl | rfl
    · exact h _ _ _
    · exact h _ _ _
  simp
  refine ⟨.inl rfl, ?_⟩
  by_cases h1 : k < ns.length
  · rw [if_pos (by omega)]
    obtain ⟨x, _, ex⟩ := at_ex (xs := ns) (i := (k : Int)) (by omega) (by omega)
    rw [ex]
    simp
    exact fin _
  · rw [if_neg (by omega)]
    by_cases h2 : 0 < ns.length
    · rw [if_pos (by omega)]
      refine ⟨by omega, ?_⟩
      obtain ⟨x, _, ex⟩ := at_ex (xs := ns) (i := (k : Int) % (ns.length : Int)) (Int.emod_nonneg _ (by omega)) (Int.emod_lt_of_pos _ (by omega))
      rw [ex]
      simp
      exact ⟨.inr rfl, fin _⟩
    · rw [if_neg (by omega)]
      exact fin _
end
end Dn.C
end

section
set_option Elab.async false
set_option linter.all false
set_option maxRecDepth 100000
set_option maxHeartbeats 4000000
/-! names -/
namespace Dn.C
open PySem PySem.Spec L2 Dn
/-! names: texts of small letters -/
def LowB (z : Str) : Bool := z.cps.toList.all fun c => decide (97 ≤ c) && decide (c < 123)
def Lo (n : Nat) (z : Str) : Prop := LowB z = true ∧ z.length ≤ n
theorem low_iff {z : Str} : LowB z = true ↔ ∀ c ∈ z.cps.toList, 97 ≤ c ∧ c < 123 := by
  unfold LowB
  rw [List.all_eq_true]
  simp
theorem Lo.mono {m n : Nat} {z : Str} (h : Lo m z) (hk : m ≤ n) : Lo n z := ⟨h.1, Nat.le_trans h.2 hk⟩
theorem Lo.app {m n : Nat} {a b : Str} (h1 : Lo m a) (h2 : Lo n b) : Lo (m + n) (a ++ b) := by
  refine ⟨low_iff.mpr fun c hc => ?_, ?_⟩
  · have : (a ++ b).cps.toList = a.cps.toList ++ b.cps.toList := TL.tl_append a b
    rw [this, List.mem_append] at hc
    exact hc.elim (low_iff.mp h1.1 c) (low_iff.mp h2.1 c)
  · have : (a ++ b).length = a.length + b.length := by
      rw [TL.len_tl, TL.tl_append, List.length_append, ← TL.len_tl, ← TL.len_tl]
    rw [this]
    exact Nat.add_le_add h1.2 h2.2
theorem Lo.cut {n : Nat} {a : Str} (h : Lo n a) {lo hi : Option Int} : Lo n (cutS a lo hi) :=
  ⟨low_iff.mpr fun c hc => low_iff.mp h.1 c (by
    have : c ∈ (a.cps.toList.drop (HT.sIx a.length 0 lo)).take (HT.sIx a.length a.length hi - HT.sIx a.length 0 lo) := by
      unfold cutS at hc
      simpa using hc
    exact List.mem_of_mem_drop (List.mem_of_mem_take this)), Nat.le_trans (cutS_length a lo hi) h.2⟩
theorem Lo.chr {n : Nat} {a : Str} (h : Lo n a) {c : Nat} (hc : c ∈ a.cps.toList) : Lo 1 ⟨#[c]⟩ :=
  ⟨low_iff.mpr fun d hd => by
    have : d = c := by simpa using hd
    rw [this]
    exact low_iff.mp h.1 c hc, Nat.le_refl _⟩
theorem Lo.rep {n : Nat} {a : Str} (h : Lo n a) (k : Nat) : Lo (n * k) (repS a k) := by
  refine ⟨low_iff.mpr fun c hc => ?_, ?_⟩
  · have e : (repS a k).cps.toList = (List.replicate k a.cps.toList).flatten := by
      unfold repS
      rw [repS_succ]
      simp
    rw [e, List.mem_flatten] at hc
    obtain ⟨l, hl, hc⟩ := hc
    rw [List.eq_of_mem_replicate hl] at hc
    exact low_iff.mp h.1 c hc
  · rw [repS_length]
    exact Nat.mul_le_mul_right _ h.2
theorem Lo.join {n : Nat} {ys : List Str} (h : ∀ y ∈ ys, Lo n y) : Lo (n * ys.length) (Txt.join "" ys) := by
  refine ⟨low_iff.mpr fun c hc => ?_, ?_⟩
  · have hc : c ∈ TL.tl (Txt.join "" ys) := hc
    rw [tl_join0, List.mem_flatten] at hc
    obtain ⟨l, hl, hc⟩ := hc
    obtain ⟨y, hy, rfl⟩ := List.mem_map.mp hl
    exact low_iff.mp (h y hy).1 c hc
  · rw [TL.len_tl, tl_join0]
    induction ys with
    | nil => simp
    | cons y r ih =>
      rw [List.map_cons, List.flatten_cons, List.length_append, List.length_cons]
      have h1 := (h y List.mem_cons_self).2
      rw [TL.len_tl] at h1
      have h2 := ih fun y hy => h y (List.mem_cons_of_mem _ hy)
      have : n * (r.length + 1) = n * r.length + n := Nat.mul_succ _ _
      omega
def LoD (n : Nat) (x : D) : Prop := ∃ z, x = .str z ∧ Lo n z
theorem LoD.list {n : Nat} : ∀ {ds : List D}, (∀ d ∈ ds, LoD n d) → ∃ ys : List Str, ds = ys.map D.str ∧ ∀ y ∈ ys, Lo n y
  | [], _ => ⟨[], rfl, fun _ h => by simp at h⟩
  | d :: ds, h => by
    obtain ⟨ys, rfl, hy⟩ := LoD.list fun d hd => h d (List.mem_cons_of_mem _ hd)
    obtain ⟨z, rfl, hz⟩ := h d List.mem_cons_self
    refine ⟨z :: ys, rfl, fun y hm => ?_⟩
    rcases List.mem_cons.mp hm with rfl | hm
    · exact hz
    · exact hy y hm
theorem lo_sum {n : Nat} : ∀ {ys : List Str}, (∀ y ∈ ys, Lo n y) → (ys.map (·.length)).sum ≤ n * ys.length
  | [], _ => by simp
  | y :: ys, h => by
    have h1 := (h y List.mem_cons_self).2
    have h2 := lo_sum fun y hy => h y (List.mem_cons_of_mem _ hy)
    rw [List.map_cons, List.sum_cons, List.length_cons, Nat.mul_succ]
    omega
theorem Lo.ok {n : Nat} {z : Str} (h : Lo n z) : Dn.Nm n z := ⟨strOk_iff.mpr fun c hc => by have := (low_iff.mp h.1 c hc).2; omega, h.2⟩
theorem cut_l {z : Str} {lo hi : Option Int} : (cutS z lo hi).length = min (HT.sIx z.length z.length hi - HT.sIx z.length 0 lo) (z.length - HT.sIx z.length 0 lo) := by
  unfold cutS
  show ((z.cps.toList.drop (HT.sIx z.length 0 lo)).take (HT.sIx z.length z.length hi - HT.sIx z.length 0 lo)).toArray.size = _
  rw [List.size_toArray, List.length_take, List.length_drop]
  rfl
theorem cutZ_to {z : Str} {k : Nat} : (cutS z none (some (k : Int))).length = min k z.length := by
  rw [cut_l, HT.sIx_nat, HT.sIx_none]
  omega
theorem cutZ_from {z : Str} {k : Nat} : (cutS z (some (k : Int)) none).length = z.length - k := by
  rw [cut_l, HT.sIx_nat, HT.sIx_none]
  omega
theorem app_l {a b : Str} : (a ++ b).length = a.length + b.length := by
  rw [TL.len_tl, TL.tl_append, List.length_append, ← TL.len_tl, ← TL.len_tl]
/-- a name -/
def Nam (x : D) : Prop := ∃ z, x = .str z ∧ Lo 6 z ∧ 1 ≤ z.length
section
variable {a b c m : Int} {Q : R → List S → Prop} {E : Exn → List S → Prop} {ds : List D}
theorem abc_ok : Lo 26 "abcdefghijklmnopqrstuvwxyz" := ⟨by decide +kernel, by decide +kernel⟩
theorem letter {i : Int} (h0 : 0 ≤ i) (h1 : i < 26) : ∃ n, atI (Str.cps "abcdefghijklmnopqrstuvwxyz").toList i = some n ∧ Lo 1 ⟨#[n]⟩ := by
  obtain ⟨x, hx, e⟩ := at_ex (xs := (Str.cps "abcdefghijklmnopqrstuvwxyz").toList) h0 (by
    have : (Str.cps "abcdefghijklmnopqrstuvwxyz").toList.length = 26 := by decide +kernel
    omega)
  exact ⟨x, e, abc_ok.chr hx⟩
def okL (n : Nat) (zs : List Str) : Bool := zs.all fun z => LowB z && (decide (z.length ≤ n) && decide (1 ≤ z.length))
theorem okL_nm {n : Nat} {zs : List Str} (h : okL n zs = true) : ∀ z ∈ zs, Lo n z ∧ 1 ≤ z.length := by
  intro z hz
  have h := List.all_eq_true.mp h z hz
  rw [Bool.and_eq_true, Bool.and_eq_true] at h
  exact ⟨⟨h.1, of_decide_eq_true h.2.1⟩, of_decide_eq_true h.2.2⟩
theorem wa_len : (Txt.split "lay lift share empty hold group take pass try stop" " ").length = 10 := by decide +kernel
theorem wb_len : (Txt.split "call slots undo found up trail left fate slot" " ").length = 9 := by decide +kernel
theorem wa_ok : okL 6 (Txt.split "lay lift share empty hold group take pass try stop" " ") = true := by decide +kernel
theorem wb_ok : okL 6 (Txt.split "call slots undo found up trail left fate slot" " ") = true := by decide +kernel
/-- a list of names -/
def Nms (k : Nat) (ds : List D) : Prop := ds ≠ [] ∧ ds.length ≤ k ∧ ∀ d ∈ ds, Nam d
theorem Nms.perm {k : Nat} {xs ys : List D} (h : Nms k xs) (p : ys.Perm xs) : Nms k ys :=
  ⟨fun z => h.1 (by subst z; exact p.symm.eq_nil), by rw [p.length_eq]; exact h.2.1, fun d hd => h.2.2 d (p.mem_iff.mp hd)⟩
theorem Nms.cut {k : Nat} {L : List D} {fi : Nat} (hk : 0 < k) (hL : fi + k ≤ L.length) (h : ∀ d ∈ L, Nam d) : Nms k (Dn.cut L (some (fi : Int)) (some ((fi : Int) + (k : Int)))) := by
  have e : Dn.cut L (some (fi : Int)) (some ((fi : Int) + (k : Int))) = (L.drop fi).take k := by
    rw [← Int.natCast_add, cut_mid, show min fi L.length = fi by omega, show min (fi + k) L.length - fi = k by omega]
  have el : ((L.drop fi).take k).length = k := by
    rw [List.length_take, List.length_drop]
    omega
  rw [e]
  refine ⟨fun z => ?_, by omega, fun d hd => h d (List.mem_of_mem_drop (List.mem_of_mem_take hd))⟩
  rw [z] at el
  simp at el
  omega
theorem names_w {k : Nat} (hk0 : 0 < k) (hk : k ≤ 6) (h : ∀ ys a' b' c', Nms k ys → Q (.d (.lst ys)) [bx a' b' c', .d (.int (k : Int))]) : wF F__law_names [bx a b c, .d (.int (k : Int))] Q E := by
  unfold F__law_names G__law_names
  rw [wF_fn]
  refine ⟨rfl, ?_⟩
  simp [bx]
  refine take_w (m := 5) (by omega) (by omega) fun form a b c f0 f1 => ?_
  have nd : ([(1 : Nat)] : List Nat).Nodup := by simp
  simp [bx]
  by_cases hf : form = 0
  · rw [if_pos hf]
    refine ⟨⟨by decide +kernel, by decide +kernel⟩, ⟨by decide +kernel, by decide +kernel⟩, ?_⟩
    have la := wa_len
    have lb := wb_len
    have oa := okL_nm wa_ok
    have ob := okL_nm wb_ok
    generalize Txt.split "lay lift share empty hold group take pass try stop" " " = A at la oa ⊢
    generalize Txt.split "call slots undo found up trail left fate slot" " " = B at lb ob ⊢
    refine ⟨by rw [sizeLine_eq]; omega, ?_⟩
    refine take_w (m := 19) (by omega) (by omega) fun first a b c g0 g1 => ?_
    obtain ⟨fi, rfl⟩ := Int.eq_ofNat_of_zero_le g0
    simp [bx]
    refine ⟨by rw [sizeLine_eq]; omega, ?_⟩
    refine mixed_w (.inl rfl) ?_ fun ys a b c hp => ?_
    · have := cut_len (List.map D.str A ++ (List.map D.str B ++ (List.map D.str A ++ List.map D.str B))) (some (fi : Int)) (some ((fi : Int) + (k : Int)))
      simp [la, lb] at this
      omega
    simp [bx]
    refine h ys a b c (Nms.perm (Nms.cut hk0 (by simp [la, lb]; omega) fun d hd => ?_) hp)
    simp at hd
    rcases hd with ⟨z, hz, rfl⟩ | ⟨z, hz, rfl⟩ | ⟨z, hz, rfl⟩ | ⟨z, hz, rfl⟩
    · exact ⟨z, rfl, (oa z hz).1, (oa z hz).2⟩
    · exact ⟨z, rfl, (ob z hz).1, (ob z hz).2⟩
    · exact ⟨z, rfl, (oa z hz).1, (oa z hz).2⟩
    · exact ⟨z, rfl, (ob z hz).1, (ob z hz).2⟩
  · rw [if_neg hf]
    refine take_w (m := 5) (by omega) (by omega) fun n a b c n0 n1 => ?_
    simp [bx]
    refine ⟨by omega, ?_⟩
    refine wE.compI (fun r acc ρ => ∃ a b c t, ρ = [some (bx a b c), some (.d (.int (k : Int))), some (.d (.str "abcdefghijklmnopqrstuvwxyz")), some (.d (.int form)), none, none, none, none, none, none, none, t] ∧ acc.length + r.length ≤ 4 ∧ ∀ x ∈ acc, LoD 1 x) ⟨a, b, c, none, rfl, by simp; omega, by simp⟩ ?_ ?_
    · rintro acc ρ ⟨a, b, c, t, rfl, hl, hm⟩
      obtain ⟨ys, rfl, hy⟩ := LoD.list hm
      rw [strsOf_map]
      have hs := lo_sum hy
      simp at hl
      simp
      rw [show (Str.ofString "").length = 0 from rfl]
      refine ⟨by omega, ?_⟩
      have hst : Lo 4 (Txt.join "" ys) := (Lo.join hy).mono (by omega)
      generalize Txt.join "" ys = stem at hst ⊢
      have hq1 : Lo 6 "qvkzjx" := ⟨by decide +kernel, by decide +kernel⟩
      have hq2 : Lo 5 "qvkzj" := ⟨by decide +kernel, by decide +kernel⟩
      have sz : ∀ {m : Nat} {z : Str}, Lo m z → m ≤ 1000 → z.length ≤ sizeLine := fun h hm => by
        rw [sizeLine_eq]
        have := h.2
        omega
      -- the end of each form: a list of names, mixed
      have fin : ∀ {a b c : Int} {acc : List D} {s : S} {Q' : R → List S → Prop} {E' : Exn → List S → Prop}, s = .d (.lst acc) ∨ s = .o (.lst acc) → acc.length = k → (∀ x ∈ acc, Nam x) → (∀ ys a b c, Nms k ys → Q' (.d (.lst ys)) [bx a b c, s]) → wF F__law_mixed [bx a b c, s] Q' E' := fun {a b c acc s Q' E'} hs hl hm hq =>
        mixed_w hs (by omega) fun ys a b c hp => hq ys a b c (Nms.perm ⟨fun z => by subst z; simp at hl; omega, by omega, hm⟩ hp)
      by_cases h1 : form = 1
      · rw [if_pos h1, if_pos (by omega)]
        simp [bx]
        refine ⟨by omega, ?_⟩
        refine wE.compI (fun r acc ρ => ∃ t u, ρ = [some (bx a b c), some (.d (.int (k : Int))), some (.d (.str "abcdefghijklmnopqrstuvwxyz")), some (.d (.int form)), some (.d (.str stem)), none, none, none, u, none, none, t] ∧ acc.length + r.length = k ∧ (∀ x ∈ acc, Nam x) ∧ ∀ x ∈ r, ∃ j : Int, x = .int j ∧ 0 ≤ j ∧ j < k) ⟨t, none, rfl, by simp, by simp, fun x hx => ?_⟩ ?_ ?_
        · obtain ⟨j, hj, rfl⟩ := rng_mem hx
          exact ⟨_, rfl, by omega, by omega⟩
        · rintro acc ρ ⟨t, u, rfl, hl, hm, _⟩
          simp at hl
          simp [bx]
          refine fin (.inl rfl) hl hm fun ys a b c hp => ?_
          simp [bx]
          exact h ys a b c hp
        · rintro x r acc ρ ⟨t, u, rfl, hl, hm, hr⟩
          obtain ⟨j, rfl, j0, j1⟩ := hr x List.mem_cons_self
          simp at hl
          have g1 := (Lo.cut (lo := none) (hi := some 1) hst).app hq1
          have g2 := Lo.cut (lo := none) (hi := some (j + 1)) g1
          simp
          refine ⟨sz hst (by omega), by have := (Lo.cut (lo := none) (hi := some 1) hst).2; have := hq1.2; rw [sizeLine_eq]; omega, sz g1 (by omega), by rw [sizeLine_eq]; omega, by omega, fun d hd => ?_, fun y hy => hr y (List.mem_cons_of_mem _ hy)⟩
          rcases hd with hd | rfl
          · exact hm d hd
          · obtain ⟨p, hp⟩ := Int.eq_ofNat_of_zero_le j0
            have l0 : (Str.ofString "qvkzjx").length = 6 := by decide +kernel
            have l1 : (cutS (cutS stem none (some 1) ++ Str.ofString "qvkzjx") none (some (j + 1))).length = min (p + 1) ((cutS stem none (some 1)).length + 6) := by
              rw [hp, ← l0, ← app_l]
              exact cutZ_to (k := p + 1)
            exact ⟨_, rfl, ⟨g2.1, by omega⟩, by omega⟩
      · rw [if_neg h1]
        simp [bx]
        refine ⟨sz hst (by omega), ?_⟩
        have hs4 := hst.2
        refine take_w (m := (stem.length : Int) + 1) (by omega) (by omega) fun at_ a b c p0 p1 => ?_
        simp [bx]
        refine take_w (m := 26) (by omega) (by omega) fun first a b c q0 q1 => ?_
        simp [bx]
        have lt : ∀ j : Int, ∃ n, atI (Str.cps "abcdefghijklmnopqrstuvwxyz").toList ((first + 7 * j) % 26) = some n ∧ Lo 1 ⟨#[n]⟩ := fun j => letter (Int.emod_nonneg _ (by omega)) (Int.emod_lt_of_pos _ (by omega))
        by_cases h2 : form = 2
        · rw [if_pos h2]
          refine ⟨by omega, ?_⟩
          refine wE.compI (fun r acc ρ => ∃ t u, ρ = [some (bx a b c), some (.d (.int (k : Int))), some (.d (.str "abcdefghijklmnopqrstuvwxyz")), some (.d (.int form)), some (.d (.str stem)), some (.d (.int at_)), some (.d (.int first)), none, u, none, none, t] ∧ acc.length + r.length = k ∧ (∀ x ∈ acc, Nam x) ∧ ∀ x ∈ r, ∃ j : Int, x = .int j) ⟨t, none, rfl, by simp, by simp, fun x hx => ?_⟩ ?_ ?_
          · obtain ⟨j, _, rfl⟩ := rng_mem hx
            exact ⟨_, rfl⟩
          · rintro acc ρ ⟨t, u, rfl, hl, hm, _⟩
            simp at hl
            simp [bx]
            refine fin (.inl rfl) hl hm fun ys a b c hp => ?_
            simp [bx]
            exact h ys a b c hp
          · rintro x r acc ρ ⟨t, u, rfl, hl, hm, hr⟩
            obtain ⟨j, rfl⟩ := hr x List.mem_cons_self
            simp at hl
            obtain ⟨z, ez, hz⟩ := lt j
            have g1 := hst.app hq2
            have g2 := Lo.cut (lo := none) (hi := some 5) g1
            have g3 := g2.app hz
            simp [ez]
            refine ⟨by have := hq2.2; rw [sizeLine_eq]; omega, sz g1 (by omega), .inl rfl, by decide +kernel, by have := g2.2; have := hz.2; rw [sizeLine_eq]; omega, by rw [sizeLine_eq]; omega, by omega, fun d hd => ?_, fun y hy => hr y (List.mem_cons_of_mem _ hy)⟩
            rcases hd with hd | rfl
            · exact hm d hd
            · have l0 : (Str.ofString "qvkzj").length = 5 := by decide +kernel
              have l1 : (cutS (stem ++ Str.ofString "qvkzj") none (some 5)).length = min 5 (stem.length + 5) := by
                rw [← l0, ← app_l]
                exact cutZ_to (k := 5)
              have l2 : (⟨#[z]⟩ : Str).length = 1 := rfl
              have l3 := app_l (a := cutS (stem ++ Str.ofString "qvkzj") none (some 5)) (b := ⟨#[z]⟩)
              exact ⟨_, rfl, ⟨g3.1, by omega⟩, by omega⟩
        · rw [if_neg h2]
          refine ⟨by omega, ?_⟩
          refine wS.forI (fun r ρ => ∃ t u v acc, ρ = [some (bx a b c), some (.d (.int (k : Int))), some (.d (.str "abcdefghijklmnopqrstuvwxyz")), some (.d (.int form)), some (.d (.str stem)), some (.d (.int at_)), some (.d (.int first)), some (.o (.lst acc)), u, none, v, t] ∧ acc.length + r.length = k ∧ (∀ x ∈ acc, Nam x) ∧ ∀ x ∈ r, ∃ j : Int, x = .int j) ⟨t, none, none, [], rfl, by simp, by simp, fun x hx => ?_⟩ ?_ ?_
          · obtain ⟨j, _, rfl⟩ := rng_mem hx
            exact ⟨_, rfl⟩
          · rintro ρ ⟨t, u, v, acc, rfl, hl, hm, _⟩
            simp at hl
            simp [bx]
            refine fin (.inr rfl) hl hm fun ys a b c hp => ?_
            simp [bx]
            exact h ys a b c hp
          · rintro x r ρ ⟨t, u, v, acc, rfl, hl, hm, hr⟩
            obtain ⟨j, rfl⟩ := hr x List.mem_cons_self
            simp at hl
            obtain ⟨z, ez, hz⟩ := lt j
            have hj : 0 ≤ j % 2 ∧ j % 2 < 2 := ⟨Int.emod_nonneg _ (by omega), Int.emod_lt_of_pos _ (by omega)⟩
            have g1 := (Lo.cut (lo := none) (hi := some at_) hst).app hz
            have g2 := g1.app (Lo.cut (lo := some at_) (hi := none) hst)
            have g3 := g2.app ((hz.rep (j % 2).toNat).mono (show 1 * (j % 2).toNat ≤ 1 by omega))
            have a1 := (Lo.cut (lo := none) (hi := some at_) hst).2
            have a2 := (Lo.cut (lo := some at_) (hi := none) hst).2
            have a3 := hz.2
            have a4 := g1.2
            have a5 := g2.2
            have a6 : (repS ⟨#[z]⟩ (j % 2).toNat).length ≤ 1 := Nat.le_trans (hz.rep (j % 2).toNat).2 (by omega)
            simp [ez]
            have a7 : (⟨#[z]⟩ : Str).length * (j % 2).toNat ≤ 1 := by
              have : (⟨#[z]⟩ : Str).length = 1 := rfl
              rw [this]
              omega
            rw [sizeLine_eq]
            refine ⟨.inl rfl, by decide +kernel, by omega, by omega, by omega, by omega, ⟨by omega, by omega, by omega, by omega⟩, by omega, by omega, t, _, _, _, ⟨rfl, rfl, rfl, rfl⟩, by simp; omega, fun d hd => ?_, fun y hy => hr y (List.mem_cons_of_mem _ hy)⟩
            rcases List.mem_append.mp hd with hd | hd
            · exact hm d hd
            · rw [List.mem_singleton.mp hd]
              obtain ⟨p, hp⟩ := Int.eq_ofNat_of_zero_le p0
              have l0 : (cutS stem none (some at_)).length = min p stem.length := by
                rw [hp]
                exact cutZ_to
              have l1 : (cutS stem (some at_) none).length = stem.length - p := by
                rw [hp]
                exact cutZ_from
              have l2 : (⟨#[z]⟩ : Str).length = 1 := rfl
              have l3 := app_l (a := cutS stem none (some at_)) (b := ⟨#[z]⟩)
              have l4 := app_l (a := cutS stem none (some at_) ++ ⟨#[z]⟩) (b := cutS stem (some at_) none)
              have l5 := app_l (a := cutS stem none (some at_) ++ ⟨#[z]⟩ ++ cutS stem (some at_) none) (b := repS ⟨#[z]⟩ (j % 2).toNat)
              exact ⟨_, rfl, ⟨g3.1, by omega⟩, by omega⟩
    · rintro x r acc ρ ⟨a, b, c, t, rfl, hl, hm⟩
      simp [bx]
      refine take_w (m := 26) (by omega) (by omega) fun i a b c i0 i1 => ?_
      obtain ⟨z, ez, hz⟩ := letter i0 i1
      simp [bx, ez]
      simp at hl
      refine ⟨by decide +kernel, by rw [sizeLine_eq]; omega, by omega, fun d hd => ?_⟩
      rcases hd with hd | rfl
      · exact hm d hd
      · exact ⟨_, rfl, hz⟩
end
end Dn.C
end

section
set_option Elab.async false
set_option linter.all false
set_option maxRecDepth 100000
set_option maxHeartbeats 4000000
/-! the world -/
namespace Dn.C
open PySem PySem.Spec L2 Dn
/-! the world; a row -/
section
variable {a b c m : Int} {Q : R → List S → Prop} {E : Exn → List S → Prop} {ds : List D}
theorem names_i {i : Int} (h0 : 0 ≤ i) (h1 : i < 6) (h : ∀ ys a' b' c', Nms 6 ys → Q (.d (.lst ys)) [bx a' b' c', .d (.int (1 + i))]) : wF F__law_names [bx a b c, .d (.int (1 + i))] Q E := by
  obtain ⟨k, rfl⟩ := Int.eq_ofNat_of_zero_le h0
  have e : (1 : Int) + (k : Int) = ((1 + k : Nat) : Int) := by omega
  rw [e] at h ⊢
  exact names_w (by omega) (by omega) fun ys a b c hn => h ys a b c ⟨hn.1, Nat.le_trans hn.2.1 (by omega), hn.2.2⟩
def WorldD (x : D) : Prop := ∃ hs ss, x = .tup [.lst hs, .lst ss] ∧ Nms 6 hs ∧ Nms 6 ss
theorem world_w {p q : Nat} (hp : 0 < p ∧ p ≤ 6) (hq : 0 < q ∧ q ≤ 6) (h : ∀ x a' b' c', WorldD x → Q (.d x) [bx a' b' c', .d (.int (p : Nat)), .d (.int (q : Nat))]) : wF F__law_world [bx a b c, .d (.int (p : Nat)), .d (.int (q : Nat))] Q E := by
  unfold F__law_world G__law_world
  rw [wF_fn]
  refine ⟨rfl, ?_⟩
  simp [bx]
  refine take_w (m := (p : Int)) (by omega) (by omega) fun i a b c i0 i1 => ?_
  simp [bx]
  refine names_i i0 (by omega) fun hs a b c hn => ?_
  simp [bx]
  refine take_w (m := 4) (by omega) (by omega) fun j a b c j0 j1 => ?_
  simp [bx]
  by_cases hj : j = 0
  · rw [if_pos hj]
    have hl := List.length_pos_iff.mpr hn.1
    have hl2 := hn.2.1
    refine take_w (m := if hs.length < q then (hs.length : Int) else (q : Int)) (by split <;> omega) (by split <;> omega) fun l a b c l0 l1 => ?_
    obtain ⟨l, rfl⟩ := Int.eq_ofNat_of_zero_le l0
    simp [bx]
    refine h _ _ _ _ ⟨hs, _, rfl, hn, ?_⟩
    have e : (1 : Int) + (l : Int) = ((1 + l : Nat) : Int) := by omega
    rw [e, Dn.cut_to]
    refine ⟨fun z => ?_, ?_, fun d hd => hn.2.2 d (List.mem_of_mem_take hd)⟩
    · have := congrArg List.length z
      rw [List.length_take, List.length_nil] at this
      omega
    · rw [List.length_take]
      omega
  · rw [if_neg hj]
    refine take_w (m := (q : Int)) (by omega) (by omega) fun i a b c i0 i1 => ?_
    simp [bx]
    refine names_i i0 (by omega) fun ss a b c hn2 => ?_
    simp [bx]
    exact h _ _ _ _ ⟨hs, ss, rfl, hn, hn2⟩
end
end Dn.C
end

section
set_option Elab.async false
set_option linter.all false
set_option maxRecDepth 100000
set_option maxHeartbeats 4000000
/-! names, deeds told -/
namespace Dn.C
open PySem PySem.Spec L2 Dn
/-! names, deeds -/
abbrev ABC : Str := "abcdefghijklmnopqrstuvwxyz"
def nameB : D → Bool
  | .str z => decide (1 ≤ z.length ∧ z.length ≤ 6) && z.cps.toList.all fun c => inS ⟨#[c]⟩ ABC
  | _ => false
section
variable {a b c : Int} {Q : R → List S → Prop} {E : Exn → List S → Prop} {ds : List D} {x : D}
theorem nilq {k : Nat} {xs : List D} (h : Shp k xs) (hk : k ≤ 63) : isPy (D.lst xs) = true ∧ isPy (D.lst []) = true ∧ SeqAt.shaped (toPy (D.lst xs)) = true ∧ SeqAt.shaped (toPy (D.lst [])) = true :=
  ⟨(Sh1.lst h).p, (Sh1.lst (k := 0) .nil).p, (Sh1.lst h).shaped (by omega), (Sh1.lst (k := 0) .nil).shaped (by omega)⟩
theorem nile {xs : List D} : (toPy (D.lst xs)).eqv (toPy (D.lst [])) = xs.isEmpty := by
  rw [toPy, toPy, PyData.eqv]
  cases xs <;> rfl
theorem isi_s {x : D} (h : okV x = true) : (∃ z, x = .str z ∧ kIsi ["str"] x = some (.d (.bl true))) ∨ (kIsi ["str"] x = some (.d (.bl false)) ∧ nameB x = false) := by
  cases x with
  | str z => exact .inl ⟨z, rfl, by rfl⟩
  | tup xs => exact .inr ⟨by rfl, rfl⟩
  | lst xs => exact .inr ⟨by rfl, rfl⟩
  | non => exact .inr ⟨by rfl, rfl⟩
  | bl b => exact .inr ⟨by rfl, rfl⟩
  | int i => exact .inr ⟨by rfl, rfl⟩
  | _ => simp [okV] at h
theorem bls_all : ∀ l : List Bool, blsOf (l.map D.bl) = some l
  | [] => rfl
  | b :: l => by
    show (blsOf (l.map D.bl)).map (b :: ·) = _
    rw [bls_all l]
    rfl
def chB : D → Bool
  | .str a => inS a ABC
  | _ => false
theorem chars_all {z : Str} : (chars z).all chB = z.cps.toList.all fun c => inS ⟨#[c]⟩ ABC := by
  unfold chars
  rw [List.all_map]
  rfl
theorem chars_mem {z : Str} {x : D} (h : x ∈ chars z) (hz : PyData.strOk z = true) : ∃ a, x = .str a ∧ PyData.strOk a = true := by
  obtain ⟨c, hc, rfl⟩ := List.mem_map.mp h
  have hn : Dn.Nm z.length z := ⟨hz, Nat.le_refl _⟩
  exact ⟨_, rfl, (Dn.Nm.chr hn hc).1⟩
theorem chars_len {z : Str} : (chars z).length = z.length := by
  unfold chars
  rw [List.length_map]
  show _ = z.cps.size
  simp
theorem nameB_s {z : Str} : nameB (.str z) = (decide (1 ≤ z.length ∧ z.length ≤ 6) && (chars z).all chB) := by
  rw [chars_all]
  rfl
theorem is_name_w (hx : okV x = true) (hm : mv x ≤ 10000000) (h : Q (.d (.bl (nameB x))) [.d x]) : wF F_is_name [.d x] Q E := by
  unfold F_is_name G_is_name
  rw [wF_fn]
  refine ⟨rfl, ?_⟩
  rcases isi_s hx with ⟨z, rfl, ei⟩ | ⟨ei, en⟩
  · rw [mv] at hm
    have hok : PyData.strOk z = true := by simpa [okV] using hx
    have hz : z.length ≤ sizeLine := by rw [sizeLine_eq]; omega
    have hl := chars_len (z := z)
    rw [nameB_s] at h
    simp [ei, K_NAME_LENGTH, hz]
    by_cases c1 : 1 ≤ z.length
    · rw [if_pos (by omega)]
      by_cases c2 : z.length ≤ 6
      · rw [if_pos (by omega)]
        refine wE.compI (fun r acc ρ => ∃ t done, ρ = [some (.d (.str z)), t] ∧ chars z = done ++ r ∧ acc = done.map fun x => D.bl (chB x)) ⟨none, [], rfl, rfl, rfl⟩ ?_ ?_
        · rintro acc ρ ⟨t, done, rfl, hd, rfl⟩
          rw [List.append_nil] at hd
          rw [← hd]
          have e : kAll [.lst ((chars z).map fun x => D.bl (chB x))] = some (.d (.bl ((chars z).all chB))) := by
            show (blsOf ((chars z).map fun x => D.bl (chB x))).map (fun ns => R.d (.bl (ns.all id))) = _
            have : ((chars z).map fun x => D.bl (chB x)) = ((chars z).map chB).map D.bl := by rw [List.map_map]; rfl
            rw [this, bls_all]
            show some (R.d (.bl (((chars z).map chB).all id))) = _
            rw [List.all_map]
            rfl
          rw [e]
          simp
          rw [decide_eq_true (show 1 ≤ z.length ∧ z.length ≤ 6 from ⟨c1, c2⟩), Bool.true_and] at h
          exact h
        · rintro x r acc ρ ⟨t, done, rfl, hd, rfl⟩
          have hxm : x ∈ chars z := by rw [hd]; simp
          obtain ⟨a, rfl, _⟩ := chars_mem hxm hok
          have hlen := congrArg List.length hd
          rw [List.length_append, List.length_cons] at hlen
          simp [K_LETTERS]
          exact ⟨by rw [sizeLine_eq]; omega, done ++ [.str a], by rw [hd]; simp, by simp [chB]⟩
      · rw [if_neg (by omega)]
        rw [decide_eq_false (show ¬ (1 ≤ z.length ∧ z.length ≤ 6) by omega), Bool.false_and] at h
        exact h
    · rw [if_neg (by omega)]
      rw [decide_eq_false (show ¬ (1 ≤ z.length ∧ z.length ≤ 6) by omega), Bool.false_and] at h
      exact h
  · simp [ei]
    rw [en] at h
    exact h
theorem law_name_w (hx : okV x = true) (hm : mv x ≤ 10000000) (h : Q (.d (.bl (nameB x))) [.d x]) : wF F__law_is_name [.d x] Q E := by
  unfold F__law_is_name G__law_is_name
  rw [wF_fn]
  refine ⟨rfl, ?_⟩
  rcases isi_s hx with ⟨z, rfl, ei⟩ | ⟨ei, en⟩
  · rw [mv] at hm
    have hok : PyData.strOk z = true := by simpa [okV] using hx
    have hz : z.length ≤ sizeLine := by rw [sizeLine_eq]; omega
    have hl := chars_len (z := z)
    rw [nameB_s] at h
    simp [ei, hz]
    by_cases c1 : 1 ≤ z.length
    · rw [if_pos (by omega)]
      by_cases c2 : z.length ≤ 6
      · rw [if_pos (by omega)]
        refine wE.compI (fun r acc ρ => ∃ t done, ρ = [some (.d (.str z)), t] ∧ chars z = done ++ r ∧ acc = done.filter fun x => !chB x) ⟨none, [], rfl, rfl, rfl⟩ ?_ ?_
        · rintro acc ρ ⟨t, done, rfl, hd, rfl⟩
          rw [List.append_nil] at hd
          rw [← hd]
          have sh : Shp 0 ((chars z).filter fun x => !chB x) := Shp.of fun x hx => by
            obtain ⟨a, rfl, ha⟩ := chars_mem (List.mem_filter.mp hx).1 hok
            exact .str ha
          have e : ((chars z).filter fun x => !chB x).isEmpty = (chars z).all chB := by
            rw [Bool.eq_iff_iff]
            simp [List.isEmpty_iff, List.filter_eq_nil_iff]
          rw [decide_eq_true (show 1 ≤ z.length ∧ z.length ≤ 6 from ⟨c1, c2⟩), Bool.true_and, ← e] at h
          refine ⟨nilq sh (by omega), ?_⟩
          rw [nile]
          simp
          simpa using h
        · rintro x r acc ρ ⟨t, done, rfl, hd, rfl⟩
          have hxm : x ∈ chars z := by rw [hd]; simp
          obtain ⟨a, rfl, _⟩ := chars_mem hxm hok
          have hlen := congrArg List.length hd
          rw [List.length_append, List.length_cons] at hlen
          have hfl := List.length_filter_le (fun x => !chB x) done
          simp
          cases ec : inS a ABC with
          | true =>
            simp
            exact ⟨done ++ [.str a], by rw [hd]; simp, by simp [chB, ec]⟩
          | false =>
            simp
            exact ⟨by rw [sizeLine_eq]; omega, done ++ [.str a], by rw [hd]; simp, by simp [chB, ec]⟩
      · rw [if_neg (by omega)]
        rw [decide_eq_false (show ¬ (1 ≤ z.length ∧ z.length ≤ 6) by omega), Bool.false_and] at h
        exact h
    · rw [if_neg (by omega)]
      rw [decide_eq_false (show ¬ (1 ≤ z.length ∧ z.length ≤ 6) by omega), Bool.false_and] at h
      exact h
  · simp [ei]
    rw [en] at h
    exact h
/-- how many parts a deed has -/
def wl (w : Str) : Int := if w = "lay" ∨ w = "lift" ∨ w = "share" then 3 else if w = "empty" then 2 else 0
def deedB : D → Bool
  | .tup (.str w :: r) => decide (wl w = ((r.length + 1 : Nat) : Int)) && r.all nameB
  | _ => false
theorem w_ne : ("lay" : Str) ≠ "lift" ∧ ("lay" : Str) ≠ "share" ∧ ("lay" : Str) ≠ "empty" ∧ ("lift" : Str) ≠ "share" ∧ ("lift" : Str) ≠ "empty" ∧ ("share" : Str) ≠ "empty" := by decide +kernel
theorem look1 (w : Str) : (DK_WORDS.lookup w).getD (.int 0) = .int (wl w) := by
  obtain ⟨a1, a2, a3, a4, a5, a6⟩ := w_ne
  unfold DK_WORDS wl
  simp only [List.lookup]
  by_cases h1 : w = "lay"
  · subst h1; simp
  · have b1 : (w == Str.ofString "lay") = false := by simpa using h1
    rw [b1]
    by_cases h2 : w = "lift"
    · subst h2; simp
    · have b2 : (w == Str.ofString "lift") = false := by simpa using h2
      rw [b2]
      by_cases h3 : w = "share"
      · subst h3; simp
      · have b3 : (w == Str.ofString "share") = false := by simpa using h3
        rw [b3]
        by_cases h4 : w = "empty"
        · subst h4; simp [Ne.symm a3, Ne.symm a5, Ne.symm a6]
        · have b4 : (w == Str.ofString "empty") = false := by simpa using h4
          rw [b4]
          simp [h1, h2, h3, h4]
def kvW : List (Key × D) := [(.inr "lay", .int 3), (.inr "lift", .int 3), (.inr "share", .int 3), (.inr "empty", .int 2)]
theorem look2 (w : Str) : (valA kvW (.inr w)).getD (.int 0) = .int (wl w) := by
  obtain ⟨a1, a2, a3, a4, a5, a6⟩ := w_ne
  unfold kvW valA wl
  by_cases h1 : w = "lay"
  · subst h1; simp
  · by_cases h2 : w = "lift"
    · subst h2; simp [a1]
    · by_cases h3 : w = "share"
      · subst h3; simp [a2, a4]
      · by_cases h4 : w = "empty"
        · subst h4; simp [a3, a5, a6, Ne.symm a3, Ne.symm a5, Ne.symm a6]
        · simp [h1, h2, h3, h4, Ne.symm h1, Ne.symm h2, Ne.symm h3, Ne.symm h4]
end
section
variable {a b c : Int} {Q : R → List S → Prop} {E : Exn → List S → Prop} {ds : List D} {x : D}
theorem isi_t {x : D} (h : okV x = true) : (∃ xs, x = .tup xs ∧ kIsi ["tuple"] x = some (.d (.bl true))) ∨ (kIsi ["tuple"] x = some (.d (.bl false)) ∧ deedB x = false) := by
  cases x with
  | tup xs => exact .inl ⟨xs, rfl, by rfl⟩
  | str z => exact .inr ⟨by rfl, rfl⟩
  | lst xs => exact .inr ⟨by rfl, rfl⟩
  | non => exact .inr ⟨by rfl, rfl⟩
  | bl b => exact .inr ⟨by rfl, rfl⟩
  | int i => exact .inr ⟨by rfl, rfl⟩
  | _ => simp [okV] at h
theorem isi_s2 {x : D} (h : okV x = true) : (∃ z, x = .str z ∧ kIsi ["str"] x = some (.d (.bl true))) ∨ (kIsi ["str"] x = some (.d (.bl false)) ∧ ∀ r, deedB (.tup (x :: r)) = false) := by
  cases x with
  | str z => exact .inl ⟨z, rfl, by rfl⟩
  | tup xs => exact .inr ⟨by rfl, fun _ => rfl⟩
  | lst xs => exact .inr ⟨by rfl, fun _ => rfl⟩
  | non => exact .inr ⟨by rfl, fun _ => rfl⟩
  | bl b => exact .inr ⟨by rfl, fun _ => rfl⟩
  | int i => exact .inr ⟨by rfl, fun _ => rfl⟩
  | _ => simp [okV] at h
theorem cut1 {y : D} {r : List D} : Dn.cut (y :: r) (some 1) none = r := by
  have := cut_from (xs := y :: r) (i := 1)
  simpa using this
theorem wl_1 {w : Str} : wl w ≠ 1 := by
  unfold wl
  split
  · decide
  · split <;> decide
theorem is_deed_w (hx : okV x = true) (hm : mv x ≤ 10000000) (h : Q (.d (.bl (deedB x))) [.d x]) : wF F_is_deed [.d x] Q E := by
  unfold F_is_deed G_is_deed
  rw [wF_fn]
  refine ⟨rfl, ?_⟩
  rcases isi_t hx with ⟨xs, rfl, ei⟩ | ⟨ei, en⟩
  · rw [mv] at hm
    rw [okV] at hx
    have hv := okVs_mem.mp hx
    have hl := mvs_len xs
    simp [ei]
    match xs, hv, hl, hm, h with
    | [], hv, hl, hm, h =>
      simp
      exact h
    | [y], hv, hl, hm, h =>
      simp
      have : deedB (.tup [y]) = false := by
        rcases isi_s2 (hv y (by simp)) with ⟨w, rfl, _⟩ | ⟨_, e⟩
        · show (decide (wl w = ((0 + 1 : Nat) : Int)) && _) = false
          rw [decide_eq_false (by have := wl_1 (w := w); simpa using this)]
          rfl
        · exact e []
      rw [this] at h
      exact h
    | y :: y2 :: r, hv, hl, hm, h =>
      have e2 : ¬ (((y :: y2 :: r).length : Int) < 2) := by simp; omega
      have hlen : ((y :: y2 :: r).length : Int) = ((r.length + 2 : Nat) : Int) := by simp; omega
      rw [hlen]
      rw [if_neg (by omega)]
      simp
      rcases isi_s2 (hv y (by simp)) with ⟨w, rfl, es⟩ | ⟨es, e⟩
      · simp [es]
        rw [k_kget rfl, look1]
        simp
        have hd : deedB (.tup (.str w :: y2 :: r)) = (decide (wl w = ((r.length + 2 : Nat) : Int)) && (y2 :: r).all nameB) := rfl
        by_cases c1 : wl w = ((r.length + 2 : Nat) : Int)
        · have c2 : wl w = (r.length : Int) + 2 := by omega
          rw [if_pos c2]
          rw [hd, decide_eq_true c1, Bool.true_and] at h
          rw [cut1]
          refine wE.compI (fun rr acc ρ => ∃ t done, ρ = [some (.d (.tup (.str w :: y2 :: r))), t] ∧ y2 :: r = done ++ rr ∧ acc = done.map fun x => D.bl (nameB x)) ⟨none, [], rfl, rfl, rfl⟩ ?_ ?_
          · rintro acc ρ ⟨t, done, rfl, hdn, rfl⟩
            rw [List.append_nil] at hdn
            rw [← hdn]
            have e : kAll [.lst ((y2 :: r).map fun x => D.bl (nameB x))] = some (.d (.bl ((y2 :: r).all nameB))) := by
              show (blsOf ((y2 :: r).map fun x => D.bl (nameB x))).map (fun ns => R.d (.bl (ns.all id))) = _
              have : ((y2 :: r).map fun x => D.bl (nameB x)) = ((y2 :: r).map nameB).map D.bl := by rw [List.map_map]; rfl
              rw [this, bls_all]
              show some (R.d (.bl (((y2 :: r).map nameB).all id))) = _
              rw [List.all_map]
              rfl
            rw [e]
            simp
            simpa using h
          · rintro x rr acc ρ ⟨t, done, rfl, hdn, rfl⟩
            have hxm : x ∈ y2 :: r := by rw [hdn]; simp
            have hxm2 : x ∈ D.str w :: y2 :: r := List.mem_cons_of_mem _ hxm
            have hmx := mvs_mem hxm2
            have hlen := congrArg List.length hdn
            rw [List.length_append, List.length_cons, List.length_cons] at hlen
            simp at hl
            simp
            refine is_name_w (hv x hxm2) (by omega) ?_
            simp
            exact ⟨by rw [sizeLine_eq]; omega, done ++ [x], by rw [hdn]; simp, by simp⟩
        · have c2 : ¬ wl w = (r.length : Int) + 2 := by omega
          rw [if_neg c2]
          rw [hd, decide_eq_false c1, Bool.false_and] at h
          exact h
      · simp [es]
        rw [e (y2 :: r)] at h
        exact h
  · simp [ei]
    rw [en] at h
    exact h
theorem law_deed_w (hx1 : Val 60 x) (hm : mv x ≤ 10000000) (h : Q (.d (.bl (deedB x))) [.d x]) : wF F__law_is_deed [.d x] Q E := by
  have hx := hx1.ok
  unfold F__law_is_deed G__law_is_deed
  rw [wF_fn]
  refine ⟨rfl, ?_⟩
  rcases isi_t hx with ⟨xs, rfl, ei⟩ | ⟨ei, en⟩
  · rw [mv] at hm
    have hx0 := hx
    rw [okV] at hx
    have hv := okVs_mem.mp hx
    have hl := mvs_len xs
    simp [ei]
    match xs, hv, hl, hm, h with
    | [], hv, hl, hm, h =>
      simp
      exact h
    | y :: r, hv, hl, hm, h =>
      have hlen : ((y :: r).length : Int) = ((r.length + 1 : Nat) : Int) := by simp
      simp
      rcases isi_s2 (hv y (by simp)) with ⟨w, rfl, es⟩ | ⟨es, e⟩
      · simp [es]
        have hd : deedB (.tup (.str w :: r)) = (decide (wl w = ((r.length + 1 : Nat) : Int)) && r.all nameB) := rfl
        have hvv := (hx1.of (.inl rfl)).2
        rw [show D.dK [(Sum.inr (Str.ofString "lay"), D.int 3), (Sum.inr (Str.ofString "lift"), D.int 3), (Sum.inr (Str.ofString "share"), D.int 3), (Sum.inr (Str.ofString "empty"), D.int 2)] = D.dK kvW from rfl, k_g2K rfl, look2]
        simp
        by_cases c1 : wl w = ((r.length + 1 : Nat) : Int)
        · have c2 : (r.length : Int) + 1 = wl w := by omega
          rw [if_pos c2]
          rw [hd, decide_eq_true c1, Bool.true_and] at h
          rw [cut1]
          refine wE.compI (fun rr acc ρ => ∃ t done, ρ = [some (.d (.tup (.str w :: r))), some (.d (.int (wl w))), t] ∧ r = done ++ rr ∧ acc = done.filter fun x => !nameB x) ⟨none, [], rfl, rfl, rfl⟩ ?_ ?_
          · rintro acc ρ ⟨t, done, rfl, hdn, rfl⟩
            rw [List.append_nil] at hdn
            rw [← hdn]
            have sh : Shp 60 (r.filter fun x => !nameB x) := Shp.of fun x hx => (hvv x (List.mem_cons_of_mem _ (List.mem_filter.mp hx).1)).sh1.mono (by omega)
            have e : (r.filter fun x => !nameB x).isEmpty = r.all nameB := by
              rw [Bool.eq_iff_iff]
              simp [List.isEmpty_iff, List.filter_eq_nil_iff]
            rw [← e] at h
            refine ⟨nilq sh (by omega), ?_⟩
            rw [nile]
            simp
            simpa using h
          · rintro x rr acc ρ ⟨t, done, rfl, hdn, rfl⟩
            have hxm : x ∈ r := by rw [hdn]; simp
            have hxm2 : x ∈ D.str w :: r := List.mem_cons_of_mem _ hxm
            have hmx := mvs_mem hxm2
            have hlen := congrArg List.length hdn
            rw [List.length_append, List.length_cons] at hlen
            have hfl := List.length_filter_le (fun x => !nameB x) done
            simp at hl
            simp
            refine law_name_w (hv x hxm2) (by omega) ?_
            simp
            cases ec : nameB x with
            | true =>
              simp
              exact ⟨done ++ [x], by rw [hdn]; simp, by simp [ec]⟩
            | false =>
              simp
              exact ⟨by rw [sizeLine_eq]; omega, done ++ [x], by rw [hdn]; simp, by simp [ec]⟩
        · have c2 : ¬ (r.length : Int) + 1 = wl w := by omega
          rw [if_neg c2]
          rw [hd, decide_eq_false c1, Bool.false_and] at h
          exact h
      · simp [es]
        rw [e r] at h
        exact h
  · simp [ei]
    rw [en] at h
    exact h
end
end Dn.C
end

section
set_option Elab.async false
set_option linter.all false
set_option maxRecDepth 100000
set_option maxHeartbeats 4000000
/-! dicts; the first irregular deed -/
namespace Dn.C
open PySem PySem.Spec L2 Dn
section
variable {a b c m : Int} {Q : R → List S → Prop} {E : Exn → List S → Prop} {ds : List D}
def StO (kvs : List (List Key × D)) : Prop := ∀ p ∈ kvs, ∃ z, p.2 = .str z
theorem valA_mem {κ α : Type} [DecidableEq κ] {kvs : List (κ × α)} {k : κ} {v : α} (h : valA kvs k = some v) : ∃ p ∈ kvs, p.2 = v := by
  unfold valA at h
  cases e : kvs.find? fun kv => decide (kv.1 = k) with
  | none => rw [e] at h; cases h
  | some p =>
    rw [e] at h
    exact ⟨p, List.mem_of_find?_eq_some e, Option.some.inj h⟩
theorem putA_mem {κ α : Type} [DecidableEq κ] {kvs : List (κ × α)} {k : κ} {v : α} {p : κ × α} (h : p ∈ putA kvs k v) : p ∈ kvs ∨ p.2 = v := by
  unfold putA at h
  split at h
  · obtain ⟨q, hq, rfl⟩ := List.mem_map.mp h
    split
    · exact .inr rfl
    · exact .inl hq
  · rcases List.mem_append.mp h with h | h
    · exact .inl h
    · rw [List.mem_singleton.mp h]
      exact .inr rfl
theorem putA_len {κ α : Type} [DecidableEq κ] {kvs : List (κ × α)} {k : κ} {v : α} : (putA kvs k v).length ≤ kvs.length + 1 := by
  unfold putA
  split
  · rw [List.length_map]; omega
  · rw [List.length_append]; exact Nat.le_refl _
theorem StO.put {kvs : List (List Key × D)} {k : List Key} {z : Str} (h : StO kvs) : StO (putA kvs k (.str z)) := fun p hp => by
  rcases putA_mem hp with hp | hp
  · exact h p hp
  · exact ⟨z, hp⟩
theorem StO.get {kvs : List (List Key × D)} {k : List Key} {y : Str} (h : StO kvs) : ∃ z, (valA kvs k).getD (.str y) = .str z := by
  cases e : valA kvs k with
  | none => exact ⟨y, rfl⟩
  | some v =>
    obtain ⟨p, hp, rfl⟩ := valA_mem e
    exact h p hp
theorem isi_tl {x : D} (h : okV x = true) : (∃ xs, (x = .tup xs ∨ x = .lst xs) ∧ kIsi ["tuple", "list"] x = some (.d (.bl true))) ∨ kIsi ["tuple", "list"] x = some (.d (.bl false)) := by
  cases x with
  | tup xs => exact .inl ⟨xs, .inl rfl, by rfl⟩
  | lst xs => exact .inl ⟨xs, .inr rfl, by rfl⟩
  | non => exact .inr (by rfl)
  | bl b => exact .inr (by rfl)
  | int i => exact .inr (by rfl)
  | str z => exact .inr (by rfl)
  | _ => simp [okV] at h
theorem isi_l {xs : List D} : kIsi ["list"] (.lst xs) = some (.d (.bl true)) ∧ kIsi ["list"] (.tup xs) = some (.d (.bl false)) := ⟨by rfl, by rfl⟩
theorem seq_len {x : D} {xs : List D} {P : R → Prop} (e : x = .tup xs ∨ x = .lst xs) : wP (kLen [x]) P ↔ P (.d (.int (xs.length : Nat))) := by
  rcases e with rfl | rfl <;> simp
theorem seq_list {x : D} {xs : List D} {P : R → Prop} (e : x = .tup xs ∨ x = .lst xs) : wP (kList [x]) P ↔ P (.o (.lst xs)) := by
  rcases e with rfl | rfl <;> simp
theorem mv_seq {x : D} {xs : List D} (e : x = .tup xs ∨ x = .lst xs) : mv x = mvs xs + 4 := by
  rcases e with rfl | rfl <;> rw [mv]
end
/-! check_deeds and what is due -/
def sameB (v : D) (w : Str) : Bool := match v with
  | .str z => decide (z = w)
  | _ => false
def llB (w : Str) : Bool := decide (w = "lay") || decide (w = "lift")
def irr : List D → Nat → List (List Key × D) → Option Nat
  | .tup (.str w :: r) :: rest, n, kvs => if llB w = true then (match keysOf r with
    | some ks => if sameB ((valA kvs ks).getD .non) w = true then some n else irr rest (n + 1) (putA kvs ks (.str w))
    | none => none) else irr rest (n + 1) kvs
  | _, _, _ => none
def told (xs : List D) : D := match xs.findIdx? (fun y => !deedB y) with
  | some i => .tup [.str "deed", .int (i : Nat)]
  | none => match irr xs 0 [] with
    | some i => .tup [.str "irregular", .int (i : Nat)]
    | none => .bl true
section
variable {Q : R → List S → Prop} {E : Exn → List S → Prop} {xs : List D} {x : D}
theorem deed_form {y : D} (h : deedB y = true) : ∃ w r, y = .tup (.str w :: r) ∧ ∀ d ∈ r, nameB d = true := by
  unfold deedB at h
  split at h
  · rename_i w r
    rw [Bool.and_eq_true] at h
    exact ⟨w, r, rfl, List.all_eq_true.mp h.2⟩
  · cases h
theorem name_strs : ∀ {r : List D}, (∀ d ∈ r, nameB d = true) → ∃ zs : List Str, r = zs.map D.str
  | [], _ => ⟨[], rfl⟩
  | d :: r, h => by
    obtain ⟨zs, rfl⟩ := name_strs fun y hy => h y (List.mem_cons_of_mem _ hy)
    have hd := h d List.mem_cons_self
    cases d with
    | str z => exact ⟨z :: zs, rfl⟩
    | _ => cases hd
theorem same_q {v : D} {w : Str} (h : v = .non ∨ ∃ z, v = .str z) (hw : PyData.strOk w = true) : eqS v (.str w) = some (sameB v w) := by
  rcases h with rfl | ⟨z, rfl⟩
  · have e : eqS .non (.str w) = if isPy .non = true ∧ isPy (.str w) = true ∧ SeqAt.shaped (toPy .non) = true ∧ SeqAt.shaped (toPy (.str w)) = true then some (PyData.eqv (toPy .non) (toPy (.str w))) else none := rfl
    rw [e, if_pos ⟨rfl, rfl, (Sh1.non (k := 0)).shaped (by omega), (Sh1.str (k := 0) hw).shaped (by omega)⟩]
    rfl
  · rfl
theorem in_ll {w : Str} (hw : PyData.strOk w = true) : inT (.str w) [.str "lay", .str "lift"] = some (llB w) := by
  have h : ∀ z ∈ (["lay", "lift"] : List Str), PyData.strOk z = true := by decide +kernel
  rw [show [D.str "lay", D.str "lift"] = (["lay", "lift"] : List Str).map D.str from rfl, in_strsT (k := 0) (.str hw) (by omega) h]
  have : memS ["lay", "lift"] (.str w) = llB w := by
    show decide (w ∈ (["lay", "lift"] : List Str)) = _
    unfold llB
    simp
  rw [this]
theorem get_form {kvs : List (List Key × D)} (h : StO kvs) (ks : List Key) : (valA kvs ks).getD .non = .non ∨ ∃ z, (valA kvs ks).getD .non = .str z := by
  cases e : valA kvs ks with
  | none => exact .inl rfl
  | some v =>
    obtain ⟨p, hp, rfl⟩ := valA_mem e
    exact .inr (h p hp)
/-- what the second walk does with one deed -/
theorem irr_cons {w : Str} {zs : List Str} {rest : List D} {n : Nat} {kvs : List (List Key × D)} : irr (.tup (.str w :: zs.map D.str) :: rest) n kvs = if llB w = true then (if sameB ((valA kvs (zs.map Sum.inr)).getD .non) w = true then some n else irr rest (n + 1) (putA kvs (zs.map Sum.inr) (.str w))) else irr rest (n + 1) kvs := by
  rw [irr, keys_strs]
theorem first_w (hx : ∀ y ∈ xs, Val 60 y) (hm : mvs xs ≤ 10000000) (hs : x = .tup xs ∨ x = .lst xs) (hd : ∀ y ∈ xs, deedB y = true) (h : Q (.d (match irr xs 0 [] with
    | some i => .int (i : Nat)
    | none => .non)) [.d x]) : wF F__law_first_irregular [.d x] Q E := by
  have hl := mvs_len xs
  have en : ∀ P : List D → Prop, wP (kEnumA x) P ↔ P (pairs (rng 0 xs.length) xs) := fun P => by rcases hs with rfl | rfl <;> simp
  unfold F__law_first_irregular G__law_first_irregular
  rw [wF_fn]
  refine ⟨rfl, ?_⟩
  simp [en]
  refine wS.forI (fun r ρ => ∃ (kvs : List (List Key × D)) (t u : Option S) (m : Nat), ρ = [some (.d x), some (.o (.dT kvs)), t, u] ∧ r = (pairs (rng 0 xs.length) xs).drop m ∧ irr (xs.drop m) m kvs = irr xs 0 [] ∧ StO kvs ∧ kvs.length ≤ m ∧ m ≤ xs.length) ⟨[], none, none, 0, rfl, rfl, by simp, by intro p hp; simp at hp, by simp, by omega⟩ ?_ ?_
  · rintro ρ ⟨kvs, t, u, m, rfl, hr, hi, _, _, _⟩
    have hlm := drop_all hr.symm
    have : xs.drop m = [] := List.drop_of_length_le hlm
    rw [this] at hi
    rw [← hi] at h
    simp
    exact h
  · rintro y r ρ ⟨kvs, t, u, m, rfl, hr, hi, hk, hkl, hml⟩
    obtain ⟨hlt, rfl, er⟩ := drop_pairs hr.symm
    have hmem : xs[m] ∈ xs := List.getElem_mem hlt
    obtain ⟨w, rr, ey, hn⟩ := deed_form (hd _ hmem)
    obtain ⟨zs, rfl⟩ := name_strs hn
    have hv := hx _ hmem
    have hmm := mvs_mem hmem
    rw [ey] at hv hmm
    have hw : PyData.strOk w = true := by
      have := okVs_mem.mp (by have := hv.ok; rw [okV] at this; exact this) (.str w) (by simp)
      rw [okV] at this
      exact this
    have e1 : Dn.cut (D.str w :: zs.map D.str) (some 1) none = zs.map D.str := cut1
    have ed : xs.drop m = .tup (.str w :: zs.map D.str) :: xs.drop (m + 1) := by rw [List.drop_eq_getElem_cons hlt, ey]
    rw [ed, irr_cons] at hi
    simp [ey]
    rw [in_ll hw, e1, keys_strs]
    simp
    cases ell : llB w with
    | false =>
      simp [ell] at hi
      simp
      exact ⟨m + 1, er, hi, hk, by omega, by omega⟩
    | true =>
      simp [ell] at hi
      simp
      rw [same_q (get_form hk _) hw]
      simp
      cases es : sameB ((valA kvs (zs.map Sum.inr)).getD .non) w with
      | true =>
        simp [es] at hi
        rw [← hi] at h
        simp
        exact h
      | false =>
        simp [es] at hi
        simp
        have := putA_len (kvs := kvs) (k := zs.map Sum.inr) (v := D.str w)
        exact ⟨by rw [sizeLine_eq]; omega, m + 1, er, hi, hk.put, by omega, by omega⟩
end
end Dn.C
end

section
set_option Elab.async false
set_option linter.all false
set_option maxRecDepth 100000
set_option maxHeartbeats 4000000
/-! check_deeds -/
namespace Dn.C
open PySem PySem.Spec L2 Dn
/-- the refusal of a row -/
def refuse (xs : List D) : Option Exn := match xs.findIdx? (fun y => !deedB y) with
  | some i => some ⟨"NoDeed", [("at", .int (i : Nat))]⟩
  | none => match irr xs 0 [] with
    | some i => some ⟨"Irregular", [("at", .int (i : Nat))]⟩
    | none => none
section
variable {Q : R → List S → Prop} {E : Exn → List S → Prop} {xs : List D} {x : D}
theorem irr_lt : ∀ (xs : List D) (n : Nat) (kvs : List (List Key × D)) (i : Nat), irr xs n kvs = some i → i < n + xs.length
  | [], n, kvs, i, h => by simp [irr] at h
  | y :: ys, n, kvs, i, h => by
    rw [List.length_cons]
    cases y with
    | tup l =>
      cases l with
      | nil => simp [irr] at h
      | cons d r =>
        cases d with
        | str w =>
          rw [irr] at h
          split at h
          · split at h
            · split at h
              · cases h
                omega
              · have := irr_lt _ _ _ _ h
                omega
            · cases h
          · have := irr_lt _ _ _ _ h
            omega
        | _ => simp [irr] at h
    | _ => simp [irr] at h
theorem pair_w {w : Str} {zs : List Str} (hw : PyData.strOk w = true) (h : Q (.d (if llB w = true then .tup (zs.map D.str) else .non)) [.d (.tup (.str w :: zs.map D.str))]) : wF F_pair_of [.d (.tup (.str w :: zs.map D.str))] Q E := by
  have e1 : Dn.cut (D.str w :: zs.map D.str) (some 1) none = zs.map D.str := cut1
  unfold F_pair_of G_pair_of
  rw [wF_fn]
  refine ⟨rfl, ?_⟩
  simp [in_ll hw, e1]
  cases ell : llB w with
  | false =>
    rw [ell] at h
    simp
    exact h
  | true =>
    rw [ell] at h
    simp
    exact h
theorem no_idx {m : Nat} (hlm : xs.length ≤ m) (hb : ∀ (i : Nat) (hi : i < xs.length), i < m → deedB xs[i] = true) : (∀ y ∈ xs, deedB y = true) ∧ xs.findIdx? (fun y => !deedB y) = none := by
  have hall : ∀ y ∈ xs, deedB y = true := fun y hy => by
    obtain ⟨i, hi, rfl⟩ := List.mem_iff_getElem.mp hy
    exact hb i hi (by omega)
  refine ⟨hall, ?_⟩
  rw [List.findIdx?_eq_none_iff]
  intro y hy
  rw [hall y hy]
  rfl
theorem at_idx {m : Nat} (hlt : m < xs.length) (eb : deedB xs[m] = false) (hb : ∀ (i : Nat) (hi : i < xs.length), i < m → deedB xs[i] = true) : xs.findIdx? (fun y => !deedB y) = some m := by
  rw [List.findIdx?_eq_some_iff_getElem]
  refine ⟨hlt, by simp [eb], fun j hj => ?_⟩
  simp [hb j (by omega) hj]
/-- the first walk: what is no deed -/
theorem check_f {g : DS} {P : Ctl → Env → Prop} {n : List (Option S)} (hx : ∀ y ∈ xs, Val 60 y) (hm : mvs xs ≤ 10000000) (hn : n = [some (.d x), none, none, none, none])
    (hg : g = sSeq (sIf (tNo (tV (dCall F_is_deed [(xVar 2)] []))) (sSeq (sRaise "NoDeed" ["at"] [(xVar 1)]) sSkip) sSkip) sSkip)
    (h1 : ∀ i t u, xs.findIdx? (fun y => !deedB y) = some i → P (.ex ⟨"NoDeed", [("at", .int (i : Nat))]⟩) [some (.d x), t, u, none, none])
    (h2 : ∀ t u, (∀ y ∈ xs, deedB y = true) → xs.findIdx? (fun y => !deedB y) = none → P .nx [some (.d x), t, u, none, none]) : wS (forL (gTp [(gNm 1), (gNm 2)]) g (pairs (rng 0 xs.length) xs)) n P := by
  have hl := mvs_len xs
  subst hg
  subst hn
  refine wS.forI (fun r ρ => ∃ (t u : Option S) (m : Nat), ρ = [some (.d x), t, u, none, none] ∧ r = (pairs (rng 0 xs.length) xs).drop m ∧ ∀ (i : Nat) (hi : i < xs.length), i < m → deedB xs[i] = true) ⟨none, none, 0, rfl, rfl, fun i hi hm => by omega⟩ ?_ ?_
  · rintro ρ ⟨t, u, m, rfl, hr, hb⟩
    have hlm := drop_all hr.symm
    obtain ⟨p, q⟩ := no_idx hlm hb
    exact h2 t u p q
  · rintro y r ρ ⟨t, u, m, rfl, hr, hb⟩
    obtain ⟨hlt, rfl, er⟩ := drop_pairs hr.symm
    have hmem : xs[m] ∈ xs := List.getElem_mem hlt
    have hmm := mvs_mem hmem
    simp
    refine is_deed_w (hx _ hmem).ok (by omega) ?_
    simp
    cases eb : deedB xs[m] with
    | true =>
      simp
      refine ⟨m + 1, er, fun i hi hlt2 => ?_⟩
      by_cases e : i = m
      · subst e; exact eb
      · exact hb i hi (by omega)
    | false =>
      simp [exFs]
      exact h1 m _ _ (at_idx hlt eb hb)
/-- check_deeds, of data or of an own list -/
theorem check_s {s : S} (hse : s = .d x ∨ (s = .o x ∧ x = .lst xs)) (hv : Val 61 x) (hm : mv x ≤ 10000000) (hs : x = .tup xs ∨ x = .lst xs) (h : match refuse xs with
    | some e => E e [.d x]
    | none => Q (.d (.bl true)) [.d x]) : wF F_check_deeds [s] Q E := by
  have hx := (hv.of hs).2
  have hms := mv_seq hs
  have hl := mvs_len xs
  have en : ∀ P : List D → Prop, wP (kEnumA x) P ↔ P (pairs (rng 0 xs.length) xs) := fun P => by rcases hs with rfl | rfl <;> simp
  have ei : kIsi ["tuple", "list"] x = some (.d (.bl true)) := by rcases hs with rfl | rfl <;> rfl
  have main : ∀ n : List (Option S), n = [some (.d x), none, none, none, none] → wS (forL (gTp [(gNm 1), (gNm 2)]) (sSeq (sIf (tNo (tV (dCall F_is_deed [(xVar 2)] []))) (sSeq (sRaise "NoDeed" ["at"] [(xVar 1)]) sSkip) sSkip) sSkip) (pairs (rng 0 xs.length) xs)) n (fun c ρ => wNx c ρ (fun ρ => wS (sSeq (sSet 3 xDT)
    (sSeq (sFor (itD (xVar 0) kEnumA) (gTp [(gNm 1), (gNm 2)]) (sSeq (sSet 4 (dCall F_pair_of [(xVar 2)] []))
    (sSeq (sIf (tB (o2 (xVar 4) (xC .non) (kIs false))) (sSeq (sIf (tB (o2 (mG isDct (xVar 3) [(xVar 4)] kGet1) (o2 (xVar 2) (xC (.int 0)) kIx2) kEq)) (sSeq (sRaise "Irregular" ["at"] [(xVar 1)])
    sSkip) sSkip)
    (sSeq (sSt2 (o2 (xVar 2) (xC (.int 0)) kIx2) (xVar 3) (xVar 4))
    sSkip)) sSkip)
    sSkip)))
    (sSeq (sRet (xC (.bl true)))
    sSkip))) ρ fun c ρ => wR [true] [s] c ρ Q E) fun c ρ => wR [true] [s] c ρ Q E) := by
    intro n hn
    refine check_f hx (by omega) hn rfl (fun i t u e => ?_) fun t u hall ef => ?_
    · unfold refuse at h
      rw [e] at h
      simp
      exact h
    · unfold refuse at h
      rw [ef] at h
      dsimp only at h
      simp [en]
      refine wS.forI (fun r ρ => ∃ (kvs : List (List Key × D)) (t u v : Option S) (m : Nat), ρ = [some (.d x), t, u, some (.o (.dT kvs)), v] ∧ r = (pairs (rng 0 xs.length) xs).drop m ∧ irr (xs.drop m) m kvs = irr xs 0 [] ∧ StO kvs ∧ kvs.length ≤ m ∧ m ≤ xs.length) ⟨[], t, u, none, 0, rfl, rfl, by simp, by intro p hp; simp at hp, by simp, by omega⟩ ?_ ?_
      · rintro ρ ⟨kvs, t, u, v, m, rfl, hr, hi, _, _, _⟩
        have hlm := drop_all hr.symm
        have : xs.drop m = [] := List.drop_of_length_le hlm
        rw [this] at hi
        rw [← hi] at h
        simp
        exact h
      · rintro y r ρ ⟨kvs, t, u, v, m, rfl, hr, hi, hk, hkl, hml⟩
        obtain ⟨hlt, rfl, er⟩ := drop_pairs hr.symm
        have hmem : xs[m] ∈ xs := List.getElem_mem hlt
        obtain ⟨w, rr, ey, hn⟩ := deed_form (hall _ hmem)
        obtain ⟨zs, rfl⟩ := name_strs hn
        have hv := hx _ hmem
        have hmm := mvs_mem hmem
        rw [ey] at hv hmm
        have hw : PyData.strOk w = true := by
          have := okVs_mem.mp (by have := hv.ok; rw [okV] at this; exact this) (.str w) (by simp)
          rw [okV] at this
          exact this
        have ed : xs.drop m = .tup (.str w :: zs.map D.str) :: xs.drop (m + 1) := by rw [List.drop_eq_getElem_cons hlt, ey]
        rw [ed, irr_cons] at hi
        simp [ey]
        refine pair_w hw ?_
        cases ell : llB w with
        | false =>
          simp [ell] at hi
          simp
          exact ⟨m + 1, er, hi, hk, by omega, by omega⟩
        | true =>
          simp [ell] at hi
          simp
          rw [keys_strs]
          simp
          rw [same_q (get_form hk _) hw]
          simp
          cases es : sameB ((valA kvs (zs.map Sum.inr)).getD .non) w with
          | true =>
            simp [es] at hi
            rw [← hi] at h
            simp [exFs]
            exact h
          | false =>
            simp [es] at hi
            simp [keys_strs]
            have := putA_len (kvs := kvs) (k := zs.map Sum.inr) (v := D.str w)
            exact ⟨by rw [sizeLine_eq]; omega, m + 1, er, hi, hk.put, by omega, by omega⟩
  unfold F_check_deeds G_check_deeds
  rw [wF_fn]
  refine ⟨rfl, ?_⟩
  rcases hse with rfl | ⟨rfl, rfl⟩
  · simp [ei, en]
    have := main _ rfl
    simpa using this
  · simp [ei]
    have := main _ rfl
    simpa using this
theorem check_w (hv : Val 61 x) (hm : mv x ≤ 10000000) (hs : x = .tup xs ∨ x = .lst xs) (h : match refuse xs with
    | some e => E e [.d x]
    | none => Q (.d (.bl true)) [.d x]) : wF F_check_deeds [.d x] Q E := check_s (.inl rfl) hv hm hs h
theorem check_n (ei : kIsi ["tuple", "list"] x = some (.d (.bl false))) (h : E ⟨"NoDeed", [("at", .int (-1))]⟩ [.d x]) : wF F_check_deeds [.d x] Q E := by
  unfold F_check_deeds G_check_deeds
  rw [wF_fn]
  refine ⟨rfl, ?_⟩
  simp [ei, exFs]
  exact h
end
end Dn.C
end

section
set_option Elab.async false
set_option linter.all false
set_option maxRecDepth 100000
set_option maxHeartbeats 4000000
/-! drawn deeds, regular rows -/
namespace Dn.C
open PySem PySem.Spec L2 Dn
/-! lookups -/
section
variable {κ α : Type} [DecidableEq κ] {kvs : List (κ × α)} {k k' : κ} {v : α}
theorem valA_nil : valA ([] : List (κ × α)) k = none := rfl
theorem valA_cons {p : κ × α} : valA (p :: kvs) k = if p.1 = k then some p.2 else valA kvs k := by
  unfold valA
  rw [List.find?_cons]
  by_cases h : p.1 = k <;> simp [h]
theorem valA_snoc : valA (kvs ++ [(k, v)]) k' = match valA kvs k' with
    | some x => some x
    | none => if k = k' then some v else none := by
  induction kvs with
  | nil => rw [List.nil_append, valA_cons, valA_nil]
  | cons p r ih =>
    rw [List.cons_append, valA_cons, valA_cons]
    by_cases h : p.1 = k'
    · rw [if_pos h, if_pos h]
    · rw [if_neg h, if_neg h, ih]
theorem any_key : (kvs.any fun kv => decide (kv.1 = k)) = (valA kvs k).isSome := by
  induction kvs with
  | nil => rfl
  | cons p r ih =>
    rw [List.any_cons, valA_cons, ih]
    by_cases h : p.1 = k
    · rw [if_pos h]; simp [h]
    · rw [if_neg h]; simp [h]
theorem valA_map : valA (kvs.map fun kv => if kv.1 = k then (kv.1, v) else kv) k' = if k = k' then (valA kvs k).map (fun _ => v) else valA kvs k' := by
  induction kvs with
  | nil => rw [List.map_nil, valA_nil, valA_nil]; split <;> rfl
  | cons p r ih =>
    rw [List.map_cons, valA_cons, valA_cons, valA_cons, ih]
    by_cases h : p.1 = k
    · rw [if_pos h]
      by_cases h2 : k = k'
      · have h3 : p.1 = k' := h.trans h2
        rw [if_pos h3, if_pos h2, if_pos h]
        rfl
      · have h3 : ¬ p.1 = k' := fun z => h2 (h.symm.trans z)
        rw [if_neg h3, if_neg h2, if_neg h2, if_neg h3]
    · rw [if_neg h]
      by_cases h2 : k = k'
      · have h3 : ¬ p.1 = k' := fun z => h (z.trans h2.symm)
        rw [if_neg h3, if_pos h2, if_pos h2, if_neg h]
      · rw [if_neg h2, if_neg h2]
theorem valA_put : valA (putA kvs k v) k' = if k = k' then some v else valA kvs k' := by
  unfold putA
  rw [any_key]
  cases e : valA kvs k with
  | none =>
    rw [Option.isSome_none, if_neg Bool.false_ne_true, valA_snoc]
    by_cases h : k = k'
    · subst h; rw [e, if_pos rfl]
    · rw [if_neg h, if_neg h]
      cases valA kvs k' <;> rfl
  | some y =>
    rw [Option.isSome_some, if_pos rfl, valA_map, e]
    rfl
end
/-! rows as lists of words -/
abbrev tupS (zs : List Str) : D := .tup (zs.map D.str)
def NamS (z : Str) : Prop := Lo 6 z ∧ 1 ≤ z.length
/-- a drawn deed -/
def DeedS (zs : List Str) : Prop := (∃ w h s, zs = [w, h, s] ∧ (w = "lay" ∨ w = "lift" ∨ w = "share") ∧ NamS h ∧ NamS s) ∨ ∃ s, zs = [("empty" : Str), s] ∧ NamS s
/-- the last word of each pair -/
def lastS : List (List Str) → List (List Key × D) → List (List Key × D)
  | [], kvs => kvs
  | [] :: rest, kvs => lastS rest kvs
  | (w :: r) :: rest, kvs => lastS rest (if llB w = true then putA kvs (r.map Sum.inr) (.str w) else kvs)
theorem lastS_app : ∀ (a b : List (List Str)) (kvs : List (List Key × D)), lastS (a ++ b) kvs = lastS b (lastS a kvs)
  | [], b, kvs => rfl
  | [] :: a, b, kvs => lastS_app a b kvs
  | (w :: r) :: a, b, kvs => by
    rw [List.cons_append, lastS, lastS]
    exact lastS_app a b _
theorem irr_snoc {w : Str} {r : List Str} : ∀ (rows : List (List Str)) (n : Nat) (kvs : List (List Key × D)), irr (rows.map tupS) n kvs = none → (∀ zs ∈ rows, zs ≠ []) →
    (llB w = true → sameB ((valA (lastS rows kvs) (r.map Sum.inr)).getD .non) w = false) → irr ((rows ++ [w :: r]).map tupS) n kvs = none
  | [], n, kvs, _, _, h => by
    show irr [.tup (.str w :: r.map D.str)] n kvs = none
    rw [irr_cons]
    cases e : llB w with
    | false => rfl
    | true =>
      have h := h e
      rw [lastS] at h
      rw [h]
      rfl
  | [] :: rows, n, kvs, _, hn, _ => absurd rfl (hn [] List.mem_cons_self)
  | (v :: q) :: rows, n, kvs, h0, hn, h => by
    have h0 : irr (.tup (.str v :: q.map D.str) :: rows.map tupS) n kvs = none := h0
    show irr (.tup (.str v :: q.map D.str) :: (rows ++ [w :: r]).map tupS) n kvs = none
    rw [irr_cons] at h0 ⊢
    rw [lastS] at h
    have hn := fun zs hz => hn zs (List.mem_cons_of_mem _ hz)
    cases e : llB v with
    | false =>
      simp only [e, Bool.false_eq_true, if_false] at h0 h ⊢
      exact irr_snoc rows _ _ h0 hn h
    | true =>
      simp only [e, if_true] at h0 h ⊢
      cases es : sameB ((valA kvs (q.map Sum.inr)).getD .non) v with
      | true => simp [es] at h0
      | false =>
        simp only [es, Bool.false_eq_true, if_false] at h0 h ⊢
        exact irr_snoc rows _ _ h0 hn h
/-- the states say the same as the last words -/
def Kst (kvs lw : List (List Key × D)) : Prop := ∀ ks, (valA kvs ks = none ∧ valA lw ks = none) ∨ (valA kvs ks = some (.str "up") ∧ valA lw ks = some (.str "lay")) ∨ (valA kvs ks = some (.str "down") ∧ valA lw ks = some (.str "lift"))
theorem Kst.put {kvs lw : List (List Key × D)} {k0 : List Key} {v w : D} (h : Kst kvs lw) (e : (v = .str "up" ∧ w = .str "lay") ∨ (v = .str "down" ∧ w = .str "lift")) : Kst (putA kvs k0 v) (putA lw k0 w) := fun ks => by
  rw [valA_put, valA_put]
  by_cases q : k0 = ks
  · rw [if_pos q, if_pos q]
    rcases e with ⟨rfl, rfl⟩ | ⟨rfl, rfl⟩
    · exact .inr (.inl ⟨rfl, rfl⟩)
    · exact .inr (.inr ⟨rfl, rfl⟩)
  · rw [if_neg q, if_neg q]
    exact h ks
/-- what a drawn deed does to the states -/
def StepS (kvs : List (List Key × D)) (zs : List Str) (kvs' : List (List Key × D)) : Prop :=
  (kvs' = kvs ∧ ∃ w r, zs = w :: r ∧ llB w = false) ∨ ∃ h s : Str, (zs = [("lay" : Str), h, s] ∧ valA kvs [.inr h, .inr s] ≠ some (.str "up") ∧ kvs' = putA kvs [.inr h, .inr s] (.str "up")) ∨
    (zs = [("lift" : Str), h, s] ∧ valA kvs [.inr h, .inr s] ≠ some (.str "down") ∧ kvs' = putA kvs [.inr h, .inr s] (.str "down"))
theorem ll1 : llB "lay" = true ∧ llB "lift" = true ∧ llB "share" = false ∧ llB "empty" = false := by decide +kernel
theorem ud1 : ("up" : Str) ≠ "down" ∧ ("lay" : Str) ≠ "lift" := by decide +kernel
structure RowI (rows : List (List Str)) (kvs : List (List Key × D)) : Prop where
  d : ∀ zs ∈ rows, DeedS zs
  r : irr (rows.map tupS) 0 [] = none
  k : Kst kvs (lastS rows [])
theorem DeedS.ne {zs : List Str} (h : DeedS zs) : zs ≠ [] := by
  rcases h with ⟨w, h, s, rfl, _⟩ | ⟨s, rfl, _⟩ <;> simp
theorem RowI.nil : RowI [] [] := ⟨by simp, rfl, fun ks => .inl ⟨rfl, rfl⟩⟩
theorem RowI.snoc {rows : List (List Str)} {kvs kvs' : List (List Key × D)} {zs : List Str} (I : RowI rows kvs) (hz : DeedS zs) (h : StepS kvs zs kvs') : RowI (rows ++ [zs]) kvs' := by
  have hn : ∀ zs ∈ rows, zs ≠ [] := fun zs hz => (I.d zs hz).ne
  have hd : ∀ y ∈ rows ++ [zs], DeedS y := fun y hy => by
    rcases List.mem_append.mp hy with hy | hy
    · exact I.d y hy
    · rw [List.mem_singleton.mp hy]; exact hz
  obtain ⟨l1, l2, _, _⟩ := ll1
  obtain ⟨u1, u2⟩ := ud1
  rcases h with ⟨rfl, w, r, rfl, e⟩ | ⟨hh, s, ⟨rfl, hv, rfl⟩ | ⟨rfl, hv, rfl⟩⟩
  · refine ⟨hd, irr_snoc rows 0 [] I.r hn fun z => (by rw [e] at z; cases z), ?_⟩
    rw [lastS_app, lastS, lastS, e]
    exact I.k
  · refine ⟨hd, irr_snoc rows 0 [] I.r hn fun _ => ?_, ?_⟩
    · show sameB ((valA (lastS rows []) [.inr hh, .inr s]).getD .non) "lay" = false
      rcases I.k [.inr hh, .inr s] with ⟨a, b⟩ | ⟨a, b⟩ | ⟨a, b⟩
      · rw [b]; rfl
      · exact absurd a hv
      · rw [b]; exact decide_eq_false (Ne.symm u2)
    · rw [lastS_app, lastS, lastS, l1, if_pos rfl]
      exact I.k.put (.inl ⟨rfl, rfl⟩)
  · refine ⟨hd, irr_snoc rows 0 [] I.r hn fun _ => ?_, ?_⟩
    · show sameB ((valA (lastS rows []) [.inr hh, .inr s]).getD .non) "lift" = false
      rcases I.k [.inr hh, .inr s] with ⟨a, b⟩ | ⟨a, b⟩ | ⟨a, b⟩
      · rw [b]; rfl
      · rw [b]; exact decide_eq_false u2
      · exact absurd a hv
    · rw [lastS_app, lastS, lastS, l2, if_pos rfl]
      exact I.k.put (.inr ⟨rfl, rfl⟩)
/-! the drawing -/
section
variable {a b c m : Int} {Q : R → List S → Prop} {E : Exn → List S → Prop} {ds : List D}
def restD : DS := (sSeq (sSet 8 (mG isDct (xVar 2) [(xTup [(xVar 5), (xVar 6)]), (o2 (xLst [(xC (.str "up")), (xC (.str "down")), (xC (.str "down"))]) (dCall F__law_take [(xVar 0), (xC (.int 3))] []) kIx2)] kGet2'))
    (sSeq (sSt2 (o2 (xLst [(xC (.str "up")), (xC (.str "down"))]) (oN [(o2 (xVar 8) (xC (.str "up")) kEq)] kInt) kIx2) (xVar 2) (xTup [(xVar 5), (xVar 6)]))
    (sSeq (sRet (xTup [(o2 (xLst [(xC (.str "lay")), (xC (.str "lift"))]) (oN [(o2 (xVar 8) (xC (.str "up")) kEq)] kInt) kIx2), (xVar 5), (xVar 6)]))
    sSkip)))
theorem G_deed : G__law_deed F__law_pick F__law_take = (sSeq (sAsg (xVar 1) (gTp [(gNm 3), (gNm 4)]))
    (sSeq (sPar [5, 6, 7] [(dCall F__law_pick [(xVar 0), (xVar 3)] []), (dCall F__law_pick [(xVar 0), (xVar 4)] []), (dCall F__law_take [(xVar 0), (xC (.int 12))] [])])
    (sSeq (sIf (tB (o2 (xVar 7) (xC (.int 0)) kEq)) (sSeq (sRet (xTup [(xC (.str "share")), (dCall F__law_pick [(xVar 0), (xVar 4)] []), (xVar 6)]))
    sSkip) sSkip)
    (sSeq (sIf (tAn (tB (o2 (xVar 7) (xC (.int 1)) kEq)) (tB (o2 (dCall F__law_take [(xVar 0), (xC (.int 2))] []) (xC (.int 0)) kEq))) (sSeq (sRet (xTup [(xC (.str "empty")), (xVar 6)]))
    sSkip) sSkip)
    restD)))) := rfl
theorem pick_at {xs : List D} {i : Int} (h0 : 0 ≤ i) (h1 : i < xs.length) : ∃ z ∈ xs, atI xs i = some z := by
  obtain ⟨x, hm, e⟩ := at_ex h0 h1
  exact ⟨x, hm, e⟩
theorem two_at {w1 w2 : D} (b : Bool) : atI [w1, w2] (if b = true then 1 else 0) = some (if b = true then w2 else w1) := by
  cases b <;> simp
theorem StO.val {kvs : List (List Key × D)} {ks : List Key} {v : D} (h : StO kvs) (e : valA kvs ks = some v) : ∃ z, v = .str z := by
  obtain ⟨p, hp, rfl⟩ := valA_mem e
  exact h p hp
theorem rest_w {u1 u3 u4 u7 : Option S} {kvs lw : List (List Key × D)} {zh zs : Str} {P : Ctl → Env → Prop} (n1 : NamS zh) (n2 : NamS zs) (hk : Kst kvs lw) (hl : kvs.length ≤ 1000)
    (h : ∀ ws a' b' c' kvs' v8, DeedS ws → StepS kvs ws kvs' → kvs'.length ≤ kvs.length + 1 → P (.rt (.d (tupS ws))) [some (bx a' b' c'), u1, some (.o (.dT kvs')), u3, u4, some (.d (.str zh)), some (.d (.str zs)), u7, v8]) :
    wS restD [some (bx a b c), u1, some (.o (.dT kvs)), u3, u4, some (.d (.str zh)), some (.d (.str zs)), u7, none] P := by
  unfold restD
  simp [bx]
  refine take_w (m := 3) (by omega) (by omega) fun i a b c i0 i1 => ?_
  obtain ⟨y, hy, ey⟩ := pick_at (xs := [D.str "up", .str "down", .str "down"]) i0 (by simpa using i1)
  have hy : y = .str "up" ∨ y = .str "down" := by
    simp only [List.mem_cons, List.not_mem_nil, or_false] at hy
    rcases hy with rfl | rfl | rfl <;> simp
  have ek : keysOf [D.str zh, .str zs] = some [.inr zh, .inr zs] := rfl
  obtain ⟨z, ez, hz, hst⟩ : ∃ z, (valA kvs [.inr zh, .inr zs]).getD y = .str z ∧ (z = "up" ∨ z = "down") ∧ (valA kvs [.inr zh, .inr zs] = none ∨ valA kvs [.inr zh, .inr zs] = some (.str z)) := by
    rcases hk [.inr zh, .inr zs] with ⟨e, _⟩ | ⟨e, _⟩ | ⟨e, _⟩
    · rw [e]
      rcases hy with rfl | rfl
      · exact ⟨_, rfl, .inl rfl, .inl rfl⟩
      · exact ⟨_, rfl, .inr rfl, .inl rfl⟩
    · rw [e]; exact ⟨_, rfl, .inl rfl, .inr rfl⟩
    · rw [e]; exact ⟨_, rfl, .inr rfl, .inr rfl⟩
  have hno : noOwn y = true := by rcases hy with rfl | rfl <;> rfl
  obtain ⟨u1', u2'⟩ := ud1
  simp [bx, ey]
  rw [k_g2T hno, ek]
  simp [ez]
  have e1 := two_at (w1 := D.str "up") (w2 := .str "down") (decide (z = "up"))
  have e2 := two_at (w1 := D.str "lay") (w2 := .str "lift") (decide (z = "up"))
  simp at e1 e2
  simp [e1, e2, ek]
  refine ⟨by rw [sizeLine_eq]; omega, ?_⟩
  rcases hz with rfl | rfl
  · simp
    refine h [("lift" : Str), zh, zs] a b c _ _ (.inl ⟨_, _, _, rfl, .inr (.inl rfl), n1, n2⟩) (.inr ⟨zh, zs, .inr ⟨rfl, ?_, rfl⟩⟩) putA_len
    rcases hst with e | e
    · rw [e]; simp
    · rw [e]; intro z; cases z
  · rw [if_neg (Ne.symm u1'), if_neg (Ne.symm u1')]
    refine h [("lay" : Str), zh, zs] a b c _ _ (.inl ⟨_, _, _, rfl, .inl rfl, n1, n2⟩) (.inr ⟨zh, zs, .inl ⟨rfl, ?_, rfl⟩⟩) putA_len
    rcases hst with e | e
    · rw [e]; simp
    · rw [e]; intro z; cases z
theorem deed_w {a0 b0 c0' : Int} {wd : D} {kvs lw : List (List Key × D)} (hw : WorldD wd) (hk : Kst kvs lw) (hl : kvs.length ≤ 1000) (h : ∀ ws a' b' c' kvs', DeedS ws → StepS kvs ws kvs' → kvs'.length ≤ kvs.length + 1 → Q (.d (tupS ws)) [bx a' b' c', .d wd, .o (.dT kvs')]) : wF F__law_deed [bx a0 b0 c0', .d wd, .o (.dT kvs)] Q E := by
  obtain ⟨hs, ss, rfl, hn, hm⟩ := hw
  unfold F__law_deed
  rw [G_deed, wF_fn]
  refine ⟨rfl, ?_⟩
  have h1 := hn.2.1
  have h2 := hm.2.1
  obtain ⟨_, _, l3, l4⟩ := ll1
  simp [bx]
  refine pick_l hn.1 (by omega) fun hand hh a b c => ?_
  simp [bx]
  refine pick_l hm.1 (by omega) fun spot hsp a b c => ?_
  simp [bx]
  refine take_w (m := 12) (by omega) (by omega) fun f a b c f0 f1 => ?_
  obtain ⟨zh, rfl, nh⟩ := hn.2.2 hand hh
  obtain ⟨zs, rfl, ns⟩ := hm.2.2 spot hsp
  simp [bx]
  by_cases c0 : f = 0
  · rw [if_pos c0]
    refine pick_l hm.1 (by omega) fun sp2 h2 a b c => ?_
    obtain ⟨z2, rfl, n2⟩ := hm.2.2 sp2 h2
    simp [bx]
    exact h [("share" : Str), z2, zs] a b c kvs (.inl ⟨_, _, _, rfl, .inr (.inr rfl), n2, ns⟩) (.inl ⟨rfl, _, _, rfl, l3⟩) (by omega)
  · rw [if_neg c0]
    have fin : ∀ (a b c : Int), wS restD [some (bx a b c), some (.d (.tup [.lst hs, .lst ss])), some (.o (.dT kvs)), some (.d (.lst hs)), some (.d (.lst ss)), some (.d (.str zh)), some (.d (.str zs)), some (.d (.int f)), none] fun c_1 ρ => wR [true, true, true] [bx a0 b0 c0', .d (.tup [.lst hs, .lst ss]), .o (.dT kvs)] c_1 ρ Q E := by
      intro a b c
      refine rest_w nh ns hk hl fun x a b c kvs' v8 hx hk' hl' => ?_
      simp
      exact h x a b c kvs' hx hk' hl'
    by_cases c1 : f = 1
    · rw [if_pos c1]
      refine take_w (m := 2) (by omega) (by omega) fun g a b c g0 g1 => ?_
      simp [bx]
      by_cases c2 : g = 0
      · simp [c2]
        exact h [("empty" : Str), zs] a b c kvs (.inr ⟨_, rfl, ns⟩) (.inl ⟨rfl, _, _, rfl, l4⟩) (by omega)
      · simp [c2]
        exact fin a b c
    · rw [if_neg c1]
      exact fin a b c
theorem row_w {wd : D} {n : Nat} (hw : WorldD wd) (hn : n ≤ 60) (h : ∀ rows a' b' c' kvs, RowI rows kvs → rows.length ≤ n → Q (.d (.lst (rows.map tupS))) [bx a' b' c', .d wd, .d (.int (n : Nat))]) : wF F__law_row [bx a b c, .d wd, .d (.int (n : Nat))] Q E := by
  unfold F__law_row G__law_row
  rw [wF_fn]
  refine ⟨rfl, ?_⟩
  simp [bx]
  refine take_w (m := (n : Int) + 1) (by omega) (by omega) fun i a b c i0 i1 => ?_
  simp [bx]
  refine ⟨⟨by omega, by omega⟩, ?_⟩
  refine wS.forI (fun r ρ => ∃ (a b c : Int) (kvs : List (List Key × D)) (rows : List (List Str)) (t : Option S), ρ = [some (bx a b c), some (.d wd), some (.d (.int (n : Nat))), some (.o (.dT kvs)), some (.o (.lst (rows.map tupS))), t] ∧ RowI rows kvs ∧ kvs.length ≤ rows.length ∧ rows.length + r.length ≤ n) ⟨a, b, c, [], [], none, rfl, .nil, by simp, by simp; omega⟩ ?_ ?_
  · rintro ρ ⟨a, b, c, kvs, rows, t, rfl, I, _, hl⟩
    simp at hl
    simp
    have := h rows a b c kvs I hl
    simpa using this
  · rintro x r ρ ⟨a, b, c, kvs, rows, t, rfl, I, hkl, hl⟩
    simp at hl
    simp [bx]
    refine deed_w hw I.k (by omega) fun y a b c kvs' hy hk' hl' => ?_
    simp
    exact ⟨by rw [sizeLine_eq]; omega, a, b, c, kvs', rows ++ [y], ⟨rfl, rfl, by simp⟩, I.snoc hy hk', by simp; omega, by simp; omega⟩
end
end Dn.C
end

section
set_option Elab.async false
set_option linter.all false
set_option maxRecDepth 100000
set_option maxHeartbeats 4000000
/-! a list of texts spoilt -/
namespace Dn.C
open PySem PySem.Spec L2 Dn
def changeS (F__law_pick F__law_take F__law_spoilt : FD) : DS := (sIf (tB (o2 (xVar 5) (xC (.int 5)) kLt)) (sSeq (sSt2 (dCall F__law_spoilt [(xVar 0), (o2 (xVar 3) (xVar 4) kIx2), (xVar 2)] []) (xVar 3) (xVar 4))
    sSkip) (sSeq (sIf (tB (o2 (xVar 5) (xC (.int 5)) kEq)) (sSeq (sExp (mO (xVar 3) [(xVar 4)] oPop))
    sSkip) (sSeq (sIf (tB (o2 (xVar 5) (xC (.int 6)) kEq)) (sSeq (sExp (mO (xVar 3) [(xVar 4), (dCall F__law_pick [(xVar 0), (xVar 2)] [])] oInsert))
    sSkip) (sSeq (sIf (tB (o2 (xVar 5) (xC (.int 7)) kEq)) (sSeq (sExp (mO (xVar 3) [(xVar 4), (o2 (xVar 3) (xVar 4) kIx2)] oInsert))
    sSkip) (sSeq (sSlS (o1 (xSl (xVar 3) (eI (xVar 4)) (eI (o2 (xVar 4) (xC (.int 2)) kAdd))) kRev) (xVar 3) (xVar 4) (o2 (xVar 4) (xC (.int 2)) kAdd))
    sSkip))
    sSkip))
    sSkip))
    sSkip))
def endS : DS := (sSeq (sRet (xIf (tV (o1 (xVar 1) (kIsi ["list"]))) (xVar 3) (oN [(xVar 3)] kTuple)))
    sSkip)
theorem G_spoilt (F : FD) : G__law_spoilt F__law_pick F__law_take F = (sSeq (sIf (tOrr (tNo (tV (o1 (xVar 1) (kIsi ["tuple", "list"])))) (tOrr (tB (o2 (oN [(xVar 1)] kLen) (xC (.int 0)) kEq)) (tB (o2 (dCall F__law_take [(xVar 0), (xC (.int 9))] []) (xC (.int 0)) kEq)))) (sSeq (sRet (dCall F__law_pick [(xVar 0), (xVar 2)] []))
    sSkip) sSkip)
    (sSeq (sPar [3, 4, 5] [(oN [(xVar 1)] kListS), (dCall F__law_take [(xVar 0), (oN [(xVar 1)] kLen)] []), (dCall F__law_take [(xVar 0), (xC (.int 9))] [])])
    (sSeq (changeS F__law_pick F__law_take F)
    endS))) := rfl
section
variable {a b c : Int} {Q : R → List S → Prop} {E : Exn → List S → Prop} {ds : List D}
theorem swap_perm {xs : List D} {k : Nat} : (xs.take k ++ ((xs.drop k).take 2).reverse ++ (xs.drop k).drop 2).Perm xs := by
  have h : (xs.take k ++ ((xs.drop k).take 2 ++ (xs.drop k).drop 2)).Perm xs := by rw [List.take_append_drop, List.take_append_drop]
  refine List.Perm.trans ?_ h
  rw [List.append_assoc]
  exact List.Perm.append_left _ (List.Perm.append_right _ (List.reverse_perm _))
theorem end_w {x : D} {xs rows its : List D} {u4 u5 : Option S} {P : Ctl → Env → Prop} (e : x = .tup xs ∨ x = .lst xs) (h : ∀ y, ((y = .tup rows ∧ x = .tup xs) ∨ (y = .lst rows ∧ x = .lst xs)) → ∀ s3, P (.rt (.d y)) [some (bx a b c), some (.d x), some (.o (.lst its)), s3, u4, u5]) :
    wS endS [some (bx a b c), some (.d x), some (.o (.lst its)), some (.o (.lst rows)), u4, u5] P := by
  unfold endS
  rcases e with rfl | rfl
  · simp [isi_l]
    exact h _ (.inl ⟨rfl, rfl⟩) _
  · simp [isi_l]
    exact h _ (.inr ⟨rfl, rfl⟩) _
theorem o_ins {P : List D × D → Prop} {xs : List D} {k : Nat} {y : D} (hl : xs.length < sizeLine) (hk : k < 9223372036854775808) : wP (oInsert xs [.int (k : Nat), y]) P ↔ P (xs.take k ++ [y] ++ xs.drop k, .non) := by
  show wP (if xs.length < sizeLine ∧ 0 ≤ (k : Int) ∧ (k : Int) < 9223372036854775808 then some (xs.take (k : Int).toNat ++ [y] ++ xs.drop (k : Int).toNat, D.non) else none) P ↔ _
  rw [if_pos ⟨hl, by omega, by omega⟩]
  rfl
theorem mem_ins {xs : List D} {k : Nat} {y z : D} (h : z ∈ xs.take k ++ [y] ++ xs.drop k) : z ∈ xs ∨ z = y := by
  simp only [List.mem_append, List.mem_singleton] at h
  rcases h with (h | h) | h
  · exact .inl (List.mem_of_mem_take h)
  · exact .inr h
  · exact .inl (List.mem_of_mem_drop h)
/-- one change in a list whose items have T -/
theorem change_t {F : FD} {its xs : List D} {x : D} {k : Nat} {f : Int} {T : D → Prop} {P : Ctl → Env → Prop} (hi0 : its ≠ []) (hil : its.length ≤ 1000) (hi : ∀ y ∈ its, T y) (hk : k < xs.length) (hf : 0 ≤ f ∧ f < 9) (hm : xs.length ≤ 1000000) (hv : ∀ y ∈ xs, T y)
    (hF : ∀ {y : D} {a b c : Int} {Q : R → List S → Prop} {E : Exn → List S → Prop}, y ∈ xs → (∀ z a b c, T z → Q (.d z) [bx a b c, .d y, .o (.lst its)]) → wF F [bx a b c, .d y, .o (.lst its)] Q E)
    (h : ∀ rows a b c, (∀ y ∈ rows, T y) → rows.length ≤ xs.length + 1 → P .nx [some (bx a b c), some (.d x), some (.o (.lst its)), some (.o (.lst rows)), some (.d (.int (k : Nat))), some (.d (.int f))]) :
    wS (changeS F__law_pick F__law_take F) [some (bx a b c), some (.d x), some (.o (.lst its)), some (.o (.lst xs)), some (.d (.int (k : Nat))), some (.d (.int f))] P := by
  have hmem : xs[k] ∈ xs := List.getElem_mem hk
  have ek : atI xs (k : Int) = some xs[k] := by rw [atI_nn, List.getElem?_eq_getElem hk]
  have exn : ixN xs.length (k : Int) = some k := by
    unfold ixN
    rw [if_pos (by omega), if_pos (by omega)]
    simp
  unfold changeS
  simp
  by_cases f5 : f < 5
  · rw [if_pos f5]
    simp [bx, ek]
    refine hF hmem fun z a b c hz => ?_
    simp [exn]
    refine h _ a b c (fun y hy => ?_) (by rw [List.length_set]; omega)
    rcases List.mem_or_eq_of_mem_set hy with hy | rfl
    · exact hv y hy
    · exact hz
  · rw [if_neg f5]
    by_cases e5 : f = 5
    · rw [if_pos e5]
      rw [o_popI rfl hk (by omega)]
      simp
      exact h _ a b c (fun y hy => hv y (List.mem_of_mem_eraseIdx hy)) (by have := List.length_eraseIdx_of_lt hk; omega)
    · rw [if_neg e5]
      by_cases e6 : f = 6
      · rw [if_pos e6]
        simp [bx]
        refine pick_o hi0 (by omega) fun y hy a b c => ?_
        simp
        rw [o_ins (by rw [sizeLine_eq]; omega) (by omega)]
        refine h _ a b c (fun z hz => ?_) (by simp; omega)
        rcases mem_ins hz with hz | rfl
        · exact hv z hz
        · exact hi _ hy
      · rw [if_neg e6]
        by_cases e7 : f = 7
        · rw [if_pos e7]
          rw [ek]
          simp
          rw [o_ins (by rw [sizeLine_eq]; omega) (by omega)]
          refine h _ a b c (fun z hz => ?_) (by simp; omega)
          rcases mem_ins hz with hz | rfl
          · exact hv z hz
          · exact hv _ hmem
        · rw [if_neg e7]
          have ec : cut xs (some (k : Int)) (some ((k : Int) + 2)) = (xs.drop k).take 2 := by
            rw [show ((k : Int) + 2) = ((k + 2 : Nat) : Int) by omega, cut_mid, show min k xs.length = k by omega]
            by_cases c2 : k + 2 ≤ xs.length
            · rw [show min (k + 2) xs.length - k = 2 by omega]
            · rw [List.take_of_length_le (by rw [List.length_drop]; omega), List.take_of_length_le (by rw [List.length_drop]; omega)]
          have ed : xs.drop (min ((k : Int) + 2).toNat xs.length) = (xs.drop k).drop 2 := by
            rw [List.drop_drop, show ((k : Int) + 2).toNat = k + 2 by omega]
            by_cases c2 : k + 2 ≤ xs.length
            · rw [show min (k + 2) xs.length = k + 2 by omega]
            · rw [List.drop_of_length_le (by omega), List.drop_of_length_le (by omega)]
          rw [ec, ed]
          have hp := swap_perm (xs := xs) (k := k)
          rw [List.append_assoc] at hp
          have hl2 : ((xs.drop k).take 2).length ≤ 2 := List.length_take_le _ _
          refine ⟨⟨by omega, by omega, by rw [sizeLine_eq]; omega⟩, h _ a b c (fun z hz => hv z (hp.mem_iff.mp hz)) ?_⟩
          rw [hp.length_eq]
          omega
theorem spoilt_str {N : Nat} {its : List D} {z : Str} (hi0 : its ≠ []) (hil : its.length ≤ 1000) (h : ∀ y ∈ its, ∀ a b c, Q (.d y) [bx a b c, .d (.str z), .o (.lst its)]) : wF (F__law_spoilt (N + 1)) [bx a b c, .d (.str z), .o (.lst its)] Q E := by
  show wF (fnF [true, true, true] 6 (G__law_spoilt F__law_pick F__law_take (F__law_spoilt N))) _ _ _
  rw [G_spoilt, wF_fn]
  refine ⟨rfl, ?_⟩
  have ei : kIsi ["tuple", "list"] (.str z) = some (.d (.bl false)) := by rfl
  simp [ei, bx]
  refine pick_o hi0 (by omega) fun y hy a b c => ?_
  simp
  exact h y hy a b c
/-- a list of texts, spoilt: a list of texts, or a text -/
theorem spoilt_l {N : Nat} {its xs : List D} {T : D → Prop} (hi0 : its ≠ []) (hil : its.length ≤ 1000) (hi : ∀ y ∈ its, T y) (hx0 : xs ≠ []) (hm : xs.length ≤ 1000000) (hv : ∀ y ∈ xs, T y) (hT : ∀ y, T y → ∃ z, y = .str z)
    (h : ∀ y a b c, (T y ∨ ∃ rows, y = .lst rows ∧ (∀ z ∈ rows, T z) ∧ rows.length ≤ xs.length + 1) → Q (.d y) [bx a b c, .d (.lst xs), .o (.lst its)]) : wF (F__law_spoilt (N + 2)) [bx a b c, .d (.lst xs), .o (.lst its)] Q E := by
  show wF (fnF [true, true, true] 6 (G__law_spoilt F__law_pick F__law_take (F__law_spoilt (N + 1)))) _ _ _
  rw [G_spoilt, wF_fn]
  refine ⟨rfl, ?_⟩
  have ei : kIsi ["tuple", "list"] (.lst xs) = some (.d (.bl true)) := by rfl
  have hxp := List.length_pos_iff.mpr hx0
  simp [ei, bx, hx0]
  refine take_w (m := 9) (by omega) (by omega) fun g a b c g0 g1 => ?_
  simp [bx]
  by_cases hg : g = 0
  · rw [if_pos hg]
    refine pick_o hi0 (by omega) fun y hy a b c => ?_
    simp
    exact h y a b c (.inl (hi y hy))
  · rw [if_neg hg]
    refine take_w (m := (xs.length : Int)) (by omega) (by omega) fun k a b c k0 k1 => ?_
    obtain ⟨k, rfl⟩ := Int.eq_ofNat_of_zero_le k0
    simp [bx]
    refine take_w (m := 9) (by omega) (by omega) fun f a b c f0 f1 => ?_
    simp
    refine change_t (T := T) hi0 hil hi (by omega) ⟨f0, f1⟩ hm hv (fun {y a b c Q E} hy hq => ?_) fun rows a b c hr hmr => ?_
    · obtain ⟨z, rfl⟩ := hT y (hv y hy)
      exact spoilt_str hi0 hil fun y hy a b c => hq y a b c (hi y hy)
    · simp
      refine end_w (.inr rfl) fun y ey s3 => ?_
      rcases ey with ⟨_, z⟩ | ⟨rfl, _⟩
      · cases z
      simp
      exact h _ a b c (.inr ⟨rows, rfl, hr, hmr⟩)
end
end Dn.C
end

section
set_option Elab.async false
set_option linter.all false
set_option maxRecDepth 100000
set_option maxHeartbeats 4000000
/-! texts joined and split -/
namespace Dn.C
open PySem PySem.Spec L2 Dn
open TL (tl spl joinL)
theorem spl_size {S : List Nat} : ∀ (k : Nat) (acc l : List Nat), ((spl S k acc l).map List.length).sum + (spl S k acc l).length ≤ acc.length + l.length + 1 ∧ ∀ p ∈ spl S k acc l, ∀ c ∈ p, c ∈ acc ∨ c ∈ l
  | k, acc, [] => by
    rw [TL.spl_nil]
    refine ⟨by simp, fun p hp c hc => ?_⟩
    rw [List.mem_singleton.mp hp] at hc
    exact .inl hc
  | 0, acc, c :: r => by
    show ((if TL.pre S (c :: r) = true then acc :: spl S (S.length - 1) [] r else spl S 0 (acc ++ [c]) r).map List.length).sum + _ ≤ _ ∧ ∀ p ∈ (if TL.pre S (c :: r) = true then acc :: spl S (S.length - 1) [] r else spl S 0 (acc ++ [c]) r), _
    by_cases h : TL.pre S (c :: r) = true
    · obtain ⟨h1, h2⟩ := spl_size (S := S) (S.length - 1) [] r
      have e : spl S 0 acc (c :: r) = acc :: spl S (S.length - 1) [] r := TL.spl_hit h
      rw [e, if_pos h]
      refine ⟨by simp at h1 ⊢; omega, fun p hp d hd => ?_⟩
      rcases List.mem_cons.mp hp with rfl | hp
      · exact .inl hd
      · rcases h2 p hp d hd with h | h
        · simp at h
        · exact .inr (List.mem_cons_of_mem _ h)
    · have h' : TL.pre S (c :: r) = false := by simpa using h
      obtain ⟨h1, h2⟩ := spl_size (S := S) 0 (acc ++ [c]) r
      have e : spl S 0 acc (c :: r) = spl S 0 (acc ++ [c]) r := TL.spl_miss h'
      rw [e, if_neg h]
      refine ⟨by simp at h1 ⊢; omega, fun p hp d hd => ?_⟩
      rcases h2 p hp d hd with h | h
      · rcases List.mem_append.mp h with h | h
        · exact .inl h
        · rw [List.mem_singleton.mp h]
          exact .inr List.mem_cons_self
      · exact .inr (List.mem_cons_of_mem _ h)
  | k + 1, acc, c :: r => by
    obtain ⟨h1, h2⟩ := spl_size (S := S) k acc r
    have e : spl S (k + 1) acc (c :: r) = spl S k acc r := rfl
    rw [e]
    refine ⟨by simp at h1 ⊢; omega, fun p hp d hd => ?_⟩
    rcases h2 p hp d hd with h | h
    · exact .inl h
    · exact .inr (List.mem_cons_of_mem _ h)
theorem mem_sum : ∀ {l : List Nat} {n : Nat}, n ∈ l → n + l.length ≤ l.sum + 1 + (l.length - 1) ∧ n ≤ l.sum
  | [], n, h => by simp at h
  | m :: l, n, h => by
    rw [List.sum_cons, List.length_cons]
    rcases List.mem_cons.mp h with rfl | h
    · omega
    · have := mem_sum h
      omega
/-- the sizes of the parts of a text that is split -/
theorem split_size {x y : Str} (hy : tl y ≠ []) (hk : y.cps.all (· < 256) = true) (hx : PyData.strOk x = true) : ((Txt.split x y).map (·.length)).sum + (Txt.split x y).length ≤ x.length + 1 ∧ ∀ p ∈ Txt.split x y, PyData.strOk p = true ∧ p.length ≤ x.length := by
  have e := TL.split_spl x y hy (TL.kind_ok hk)
  obtain ⟨h1, h2⟩ := spl_size (S := tl y) 0 [] (tl x)
  rw [← e] at h1 h2
  have e2 : ((Txt.split x y).map tl).map List.length = (Txt.split x y).map (·.length) := by
    rw [List.map_map]
    exact List.map_congr_left fun p _ => (TL.len_tl p).symm
  rw [e2, List.length_map, List.length_nil, ← TL.len_tl] at h1
  refine ⟨by omega, fun p hp => ⟨strOk_iff.mpr fun c hc => ?_, ?_⟩⟩
  · rcases h2 (tl p) (List.mem_map_of_mem hp) c hc with h | h
    · simp at h
    · exact strOk_iff.mp hx c h
  · have hm : p.length ∈ (Txt.split x y).map (·.length) := List.mem_map_of_mem hp
    have := (mem_sum hm).2
    have hl := List.length_pos_of_mem hp
    omega
/-! joined texts -/
theorem joinL_mem {S : List Nat} : ∀ {ps : List (List Nat)} {c : Nat}, c ∈ joinL S ps → c ∈ S ∨ ∃ p ∈ ps, c ∈ p
  | [], c, h => by simp [joinL] at h
  | [p], c, h => .inr ⟨p, by simp, h⟩
  | p :: q :: r, c, h => by
    have h : c ∈ p ++ (S ++ joinL S (q :: r)) := h
    rw [List.mem_append, List.mem_append] at h
    rcases h with h | h | h
    · exact .inr ⟨p, by simp, h⟩
    · exact .inl h
    · rcases joinL_mem h with h | ⟨z, hz, h⟩
      · exact .inl h
      · exact .inr ⟨z, List.mem_cons_of_mem _ hz, h⟩
theorem joinL_len {S : List Nat} : ∀ (ps : List (List Nat)), (joinL S ps).length ≤ (ps.map List.length).sum + ps.length * S.length
  | [] => by simp [joinL]
  | [p] => by simp [joinL]
  | p :: q :: r => by
    have ih := joinL_len (S := S) (q :: r)
    show (p ++ (S ++ joinL S (q :: r))).length ≤ _
    rw [List.length_append, List.length_append, List.map_cons, List.sum_cons, List.length_cons, Nat.succ_mul]
    omega
theorem join_nm {n m : Nat} {y : Str} {ps : List Str} (hy : Dn.Nm m y) (h : ∀ p ∈ ps, Dn.Nm n p) : Dn.Nm ((n + m) * ps.length) (Txt.join y ps) := by
  rw [TL.join_eq]
  refine ⟨strOk_iff.mpr fun c hc => ?_, ?_⟩
  · have hc : c ∈ tl (Str.join y ps) := hc
    rw [TL.tl_join] at hc
    rcases joinL_mem hc with hc | ⟨p, hp, hc⟩
    · exact strOk_iff.mp hy.1 c hc
    · obtain ⟨z, hz, rfl⟩ := List.mem_map.mp hp
      exact strOk_iff.mp (h z hz).1 c hc
  · rw [TL.len_tl, TL.tl_join]
    refine Nat.le_trans (joinL_len _) ?_
    have e2 : (ps.map tl).map List.length = ps.map (·.length) := by
      rw [List.map_map]
      exact List.map_congr_left fun p _ => (TL.len_tl p).symm
    rw [e2, List.length_map, ← TL.len_tl]
    have h1 := Dn.len_sum h
    have h2 : ps.length * y.length ≤ m * ps.length := by rw [Nat.mul_comm]; exact Nat.mul_le_mul_right _ hy.2
    rw [Nat.add_mul]
    omega
/-- the parts hold no ; -/
theorem spl_semi {s d : Nat} (hsd : s ≠ d) : ∀ {parts : List (List Nat)}, parts ≠ [] → (∀ p ∈ parts, d ∉ p) → spl [s, d, s] 0 [] (joinL [s, d, s] parts) = parts
  | [], h, _ => absurd rfl h
  | [p], _, hp => by
    show spl [s, d, s] 0 [] p = [p]
    have hp := hp p (by simp)
    refine (TL.spl_last fun i hi => ?_).trans (by rw [List.nil_append])
    cases e : TL.pre [s, d, s] (p.drop i) with
    | false => rfl
    | true =>
      have e : (p.drop i).take 3 = [s, d, s] := eq_of_beq e
      exact absurd (List.mem_of_mem_drop (List.mem_of_mem_take (by rw [e]; simp))) hp
  | p :: q :: r, _, hp => by
    show spl [s, d, s] 0 [] (p ++ ([s, d, s] ++ joinL [s, d, s] (q :: r))) = p :: q :: r
    have h0 := hp p (by simp)
    rw [TL.spl_part (by simp) fun i hi => ?_, List.nil_append, spl_semi hsd (by simp) fun z hz => hp z (List.mem_cons_of_mem _ hz)]
    cases e : TL.pre [s, d, s] ((p ++ ([s, d, s] ++ joinL [s, d, s] (q :: r))).drop i) with
    | false => rfl
    | true =>
      exfalso
      have e : ((p ++ ([s, d, s] ++ joinL [s, d, s] (q :: r))).drop i).take 3 = [s, d, s] := eq_of_beq e
      have e1 : (p ++ ([s, d, s] ++ joinL [s, d, s] (q :: r)))[i + 1]? = some d := by
        have := congrArg (fun l => l[1]?) e
        rw [List.getElem?_take_of_lt (by omega), List.getElem?_drop] at this
        exact this
      by_cases h1 : i + 1 < p.length
      · rw [List.getElem?_append_left h1] at e1
        exact h0 (List.mem_of_getElem? e1)
      · rw [List.getElem?_append_right (by omega), show i + 1 - p.length = 0 by omega] at e1
        exact hsd (Option.some.inj e1)
theorem split_semi {parts : List Str} (hne : parts ≠ []) (hp : ∀ p ∈ parts, 59 ∉ tl p) : Txt.split (Txt.join " ; " parts) " ; " = parts := by
  have ey : tl (" ; " : Str) = [32, 59, 32] := by decide +kernel
  refine TL.map_tl_inj ?_
  rw [TL.split_spl _ _ (by rw [ey]; simp) (TL.kind_ok (by decide +kernel)), TL.join_eq, TL.tl_join, ey]
  refine spl_semi (by decide) (fun e => hne (List.map_eq_nil_iff.mp e)) fun p h => ?_
  obtain ⟨z, hz, rfl⟩ := List.mem_map.mp h
  exact hp z hz
theorem split_sp {parts : List Str} (hne : parts ≠ []) (hp : ∀ p ∈ parts, 32 ∉ tl p) : Txt.split (Txt.join " " parts) " " = parts :=
  TL.split_join (s := 32) (S := []) (by decide +kernel) (by decide +kernel) hne hp
end Dn.C
end

section
set_option Elab.async false
set_option linter.all false
set_option maxRecDepth 100000
set_option maxHeartbeats 4000000
namespace Dn.k08
open PySem PySem.Spec L2 Dn
open Dn.C (K_LETTERS K_NAME_LENGTH DK_WORDS G_is_name F_is_name G_is_deed F_is_deed G_pair_of F_pair_of G_check_deeds F_check_deeds G_format_deeds F_format_deeds G_parse_deeds F_parse_deeds G__law_box F__law_box G__law_take F__law_take G__law_pick F__law_pick G__law_mixed F__law_mixed G__law_names F__law_names G__law_world F__law_world G__law_deed F__law_deed G__law_row F__law_row G__law_spoilt F__law_spoilt G__law_is_name F__law_is_name G__law_is_deed F__law_is_deed G__law_first_irregular F__law_first_irregular)
def cxs : List Str := ["FoundError", "NoWord", "NoText", "NoDeed", "Irregular", "Blocked"]
def crel (x y : Str) : Bool := decide (x = y) || (decide (x = "NoWord") && decide (y = "FoundError")) || (decide (x = "NoText") && decide (y = "FoundError")) || (decide (x = "NoDeed") && decide (y = "FoundError")) || (decide (x = "Irregular") && decide (y = "FoundError")) || (decide (x = "Blocked") && decide (y = "FoundError"))
def G__law_text : DS :=
    (sSeq (sRet (xIf (tB (o2 (oN [(xVar 0)] kLen) (xC (.int 0)) kGt)) (mR "str" (xC (.str " ; ")) [(xLc (itSeq (xVar 0)) [1] (gNm 1) (rE true) (mR "str" (xC (.str " ")) [(xVar 1)] kJoinS))] kJoinS) (xC (.str "-"))))
    sSkip)
def F__law_text : FD := fnF [true] 2 G__law_text
def G__law_due (F__law_first_irregular F__law_is_deed : FD) : DS :=
    (sSeq (sIf (tB (o2 (xVar 0) (xC (.str "-")) kEq)) (sSeq (sRet (xTup []))
    sSkip) sSkip)
    (sSeq (sSet 1 (xLc (itSeq (mR "str" (xVar 0) [(xC (.str " ; "))] kSplit)) [4] (gNm 4) (rE true) (oN [(mR "str" (xVar 4) [(xC (.str " "))] kSplit)] kTuple)))
    (sSeq (sFor (itD (xVar 1) kEnumA) (gTp [(gNm 2), (gNm 3)]) (sSeq (sIf (tNo (tV (dCall F__law_is_deed [(xVar 3)] []))) (sSeq (sRet (xTup [(xC (.str "text")), (xVar 2)]))
    sSkip) sSkip)
    sSkip))
    (sSeq (sSet 2 (dCall F__law_first_irregular [(xVar 1)] []))
    (sSeq (sRet (xIf (tB (o2 (xVar 2) (xC .non) (kIs true))) (oN [(xVar 1)] kTuple) (xTup [(xC (.str "irregular")), (xVar 2)])))
    sSkip)))))
def F__law_due : FD := fnF [true] 5 (G__law_due F__law_first_irregular F__law_is_deed)
def G__law_told (F_parse_deeds : FD) : DS :=
    (sSeq (sSet 1 (xC (.str "other")))
    (sSeq (sTry cxs crel (sSeq (sSet 1 (dCall F_parse_deeds [(xVar 0)] []))
    sSkip) [(["FoundError"], some 2, (sSeq (sSet 3 (xIsE cxs crel 2 ["Blocked", "NoDeed", "NoWord"]))
    (sSeq (sIf (tAn (tV (xIsE cxs crel 2 ["NoText"])) (tAn (tNo (tV (xIsE cxs crel 2 ["Irregular"]))) (tNo (tV (xVar 3))))) (sSeq (sSet 1 (xTup [(xC (.str "text")), (xFld cxs 2 "at")]))
    sSkip) sSkip)
    (sSeq (sIf (tAn (tV (xIsE cxs crel 2 ["Irregular"])) (tAn (tNo (tV (xIsE cxs crel 2 ["NoText"]))) (tNo (tV (xVar 3))))) (sSeq (sSet 1 (xTup [(xC (.str "irregular")), (xFld cxs 2 "at")]))
    sSkip) sSkip)
    sSkip))))])
    (sSeq (sRet (xVar 1))
    sSkip)))
def F__law_told : FD := fnF [true] 4 (G__law_told F_parse_deeds)
def G__law_odd_text (F__law_take F__law_spoilt F__law_text : FD) : DS :=
    (sSeq (sPar [2, 3] [(dCall F__law_take [(xVar 0), (xC (.int 3))] []), (o2 (oN [(xC (.str " ;-abyAslt0"))] kListS) (xLst [(xC (.str " ; "))]) kAdd)])
    (sSeq (sIf (tB (o2 (xVar 2) (xC (.int 0)) kEq)) (sSeq (sRet (mR "str" (xC (.str "")) [(xSl (dCall F__law_spoilt [(xVar 0), (o2 (oN [(dCall F__law_text [(xVar 1)] [])] kListS) (xLst [(xC (.str " "))]) kAdd), (xVar 3)] []) eNo (eI (xC (.int 3900))))] kJoinS))
    sSkip) sSkip)
    (sSeq (sSet 4 (xLst [(xC (.str "")), (xC (.str "lay")), (xC (.str "lift")), (xC (.str "share")), (xC (.str "empty")), (xC (.str "a")), (xC (.str "s")), (xC (.str ";")), (xC (.str "-")), (xC (.str "abcdefg")), (xC (.str "A"))]))
    (sSeq (sSet 5 (o2 (xLc (itSeq (xVar 1)) [8] (gNm 8) (rE true) (oN [(xVar 8)] kListS)) (xLst [(xLst [(xC (.str "lay")), (xC (.str "a")), (xC (.str "s"))])]) kAdd))
    (sSeq (sIf (tB (o2 (xVar 2) (xC (.int 1)) kEq)) (sSeq (sSet 6 (dCall F__law_take [(xVar 0), (oN [(xVar 5)] kLen)] []))
    (sSeq (sSt2 (xSl (oN [(dCall F__law_spoilt [(xVar 0), (o2 (o2 (xVar 5) (xVar 6) kIx2) (xLst [(xC (.str ""))]) kAdd), (xVar 4)] [])] kListS) eNo (eI (xC (.int 5)))) (xVar 5) (xVar 6))
    sSkip)) (sSeq (sSet 6 (dCall F__law_take [(xVar 0), (oN [(xVar 5)] kLen)] []))
    (sSeq (sSet 7 (o1 (xSl (xVar 5) (eI (xVar 6)) (eI (o2 (xVar 6) (xC (.int 2)) kAdd))) kRev))
    (sSeq (sSlS (o2 (xVar 7) (o2 (xSl (xVar 5) (eI (xVar 6)) (eI (o2 (xVar 6) (xC (.int 1)) kAdd))) (dCall F__law_take [(xVar 0), (xC (.int 2))] []) kMul) kAdd) (xVar 5) (xVar 6) (o2 (xVar 6) (xC (.int 2)) kAdd))
    sSkip))))
    (sSeq (sRet (mR "str" (xC (.str " ; ")) [(xLc (itSeq (xVar 5)) [8] (gNm 8) (rE true) (mR "str" (xC (.str " ")) [(xVar 8)] kJoinS))] kJoinS))
    sSkip))))))
def F__law_odd_text : FD := fnF [true, true] 9 (G__law_odd_text F__law_take (F__law_spoilt 24) F__law_text)
def G_law (F__law_box F__law_row F__law_world F__law_told F__law_take F__law_text F__law_odd_text F__law_due F_format_deeds F_parse_deeds : FD) : DS :=
    (sSeq (sFor (itN [(oN [(xC (.int 2)), (oN [(xC (.int 5)), (oN [(xVar 0)] kLen)] kMin2)] kMax2)] kRng1) (gNm 1) (sSeq (sSet 2 (dCall F__law_box [(xVar 0), (xVar 1)] []))
    (sSeq (sSet 3 (dCall F__law_row [(xVar 2), (dCall F__law_world [(xVar 2), (xC (.int 6)), (xC (.int 4))] []), (o2 (xLst [(xC (.int 10)), (xC (.int 56))]) (dCall F__law_take [(xVar 2), (xC (.int 2))] []) kIx2)] []))
    (sSeq (sSet 4 (xLst [(xC (.str "-")), (xC (.str "")), (xC (.str " ")), (xC (.str ";")), (xC (.str " ; ")), (xC (.str "- ; lay a s"))]))
    (sSeq (sSet 4 (o2 (xVar 4) (xLst [(xC (.str " lay a s")), (xC (.str "lay a s ")), (xC (.str "lay  a s")), (xC (.str " -")), (xC (.str "- ")), (xC (.str "lay a s  ; empty s")), (xC (.str "lay a s ;empty s"))]) kAdd))
    (sSeq (sSet 4 (o2 (xVar 4) (xLst [(xC (.str "lay a s ; lay a s ; lay a")), (xC (.str "lift a s ; lift a s ; -")), (xC (.str "lay a s ; lay a s ; empty s"))]) kAdd))
    (sSeq (sSet 4 (o2 (xVar 4) (xLst [(xC (.str "lay a s ; lay a s")), (xC (.str "lay a s ; ")), (dCall F__law_text [(xVar 3)] []), (o2 (xC (.str " ")) (dCall F__law_text [(xVar 3)] []) kAdd), (o2 (dCall F__law_text [(xVar 3)] []) (xC (.str " ")) kAdd)]) kAdd))
    (sSeq (sFor (itN [(xC (.int 20))] kRng1) (gNm 5) (sSeq (sExp (mO (xVar 4) [(dCall F__law_odd_text [(xVar 2), (xVar 3)] [])] oAppend))
    sSkip))
    (sSeq (sFor (itSeq (xVar 4)) (gNm 6) (sSeq (sSet 8 (dCall F__law_told [(xVar 6)] []))
    (sSeq (sIf (tB (o2 (oN [(xVar 8)] kRepr) (oN [(dCall F__law_due [(xVar 6)] [])] kRepr) kNe)) (sSeq (sRet (xC (.bl false)))
    sSkip) sSkip)
    sSkip)))
    (sSeq (sFor (itSeq (xTup [(xVar 3), (oN [(xVar 3)] kTuple)])) (gNm 7) (sSeq (sIf (tOrr (tB (o2 (dCall F_format_deeds [(xVar 7)] []) (dCall F__law_text [(xVar 3)] []) kNe)) (tB (o2 (dCall F_parse_deeds [(dCall F_format_deeds [(xVar 7)] [])] []) (oN [(xVar 3)] kTuple) kNe))) (sSeq (sRet (xC (.bl false)))
    sSkip) sSkip)
    sSkip))
    sSkip))))))))))
    (sSeq (sRet (xC (.bl true)))
    sSkip))
def F_law : FD := fnF [true] 9 (G_law F__law_box F__law_row F__law_world F__law_told F__law_take F__law_text F__law_odd_text F__law_due F_format_deeds F_parse_deeds)
end Dn.k08
end

section
set_option Elab.async false
set_option linter.all false
set_option maxRecDepth 100000
set_option maxHeartbeats 4000000
namespace Dn.k08
open PySem PySem.Spec L2 Dn Dn.C
open TL (tl)
/-! the text of a row -/
def textS (rows : List (List Str)) : Str := if rows = [] then "-" else Txt.join " ; " (rows.map (Txt.join " "))
section
variable {Q : R → List S → Prop} {E : Exn → List S → Prop} {x : D}
theorem m_join_t {P : R → Prop} {a : Str} {xs : List D} : wP (kJoin (.str a) [.tup xs]) P ↔ wP (strsOf xs) fun ys => (ys.map (·.length)).sum + ys.length * a.length ≤ 16777216 ∧ P (.d (.str (Txt.join a ys))) := by
  show wP (match strsOf xs with
    | some ys => if (ys.map (·.length)).sum + ys.length * a.length ≤ 16777216 then some (.d (.str (Txt.join a ys))) else none
    | none => none) P ↔ _
  cases strsOf xs with
  | none => rfl
  | some ys => exact wP_ite
theorem sp1 : Dn.Nm 1 " " ∧ Dn.Nm 3 " ; " := ⟨⟨by decide +kernel, by decide +kernel⟩, ⟨by decide +kernel, by decide +kernel⟩⟩
theorem deed_nm {zs : List Str} (h : DeedS zs) : (∀ z ∈ zs, Dn.Nm 6 z) ∧ zs.length ≤ 3 := by
  have k : ∀ w ∈ (["lay", "lift", "share", "empty"] : List Str), Dn.Nm 6 w := fun w hw => by
    simp only [List.mem_cons, List.not_mem_nil, or_false] at hw
    rcases hw with rfl | rfl | rfl | rfl <;> exact ⟨by decide +kernel, by decide +kernel⟩
  rcases h with ⟨w, h, s, rfl, hw, nh, ns⟩ | ⟨s, rfl, ns⟩
  · refine ⟨fun z hz => ?_, by simp⟩
    simp only [List.mem_cons, List.not_mem_nil, or_false] at hz
    rcases hz with rfl | rfl | rfl
    · exact k _ (by rcases hw with rfl | rfl | rfl <;> simp)
    · exact nh.1.ok
    · exact ns.1.ok
  · refine ⟨fun z hz => ?_, by simp⟩
    simp only [List.mem_cons, List.not_mem_nil, or_false] at hz
    rcases hz with rfl | rfl
    · exact k _ (by simp)
    · exact ns.1.ok
theorem join_len {n : Nat} {zs : List Str} (h : ∀ z ∈ zs, Dn.Nm n z) : (zs.map (·.length)).sum ≤ n * zs.length := Dn.len_sum h
theorem words_nm {zs : List Str} (h : DeedS zs) : Dn.Nm 21 (Txt.join " " zs) := by
  obtain ⟨a, b⟩ := deed_nm h
  exact (join_nm sp1.1 a).mono (by omega)
theorem textS_nm {rows : List (List Str)} (h : ∀ zs ∈ rows, DeedS zs) (hl : rows.length ≤ 60) : Dn.Nm 1500 (textS rows) := by
  unfold textS
  split
  · exact ⟨by decide +kernel, by decide +kernel⟩
  · refine (join_nm (n := 21) sp1.2 fun p hp => ?_).mono ?_
    · obtain ⟨zs, hz, rfl⟩ := List.mem_map.mp hp
      exact words_nm (h zs hz)
    · rw [List.length_map]
      omega
theorem len_map_words {rows : List (List Str)} (h : ∀ zs ∈ rows, DeedS zs) : ((rows.map (Txt.join " ")).map (·.length)).sum ≤ 21 * rows.length := by
  have := Dn.len_sum (n := 21) (ys := rows.map (Txt.join " ")) fun p hp => by
    obtain ⟨zs, hz, rfl⟩ := List.mem_map.mp hp
    exact words_nm (h zs hz)
  rw [List.length_map] at this
  exact this
theorem fmt_eq : G_format_deeds = G__law_text := rfl
theorem text_w {rows : List (List Str)} (h : ∀ zs ∈ rows, DeedS zs) (hl : rows.length ≤ 60) (e : x = .tup (rows.map tupS) ∨ x = .lst (rows.map tupS)) (hq : Q (.d (.str (textS rows))) [.d x]) : wF F__law_text [.d x] Q E := by
  unfold F__law_text G__law_text
  rw [wF_fn]
  refine ⟨rfl, ?_⟩
  have es : ∀ P : List D → Prop, wP (seqOf x) P ↔ P (rows.map tupS) := fun P => by rcases e with rfl | rfl <;> simp
  simp [seq_len e, es]
  unfold textS at hq
  by_cases h0 : rows = []
  · subst h0
    rw [if_pos rfl] at hq
    simp
    exact hq
  · have hp := List.length_pos_iff.mpr h0
    rw [if_neg h0] at hq
    rw [if_pos hp]
    refine wE.compI (fun r acc ρ => ∃ t done left, ρ = [some (.d x), t] ∧ rows = done ++ left ∧ r = left.map tupS ∧ acc = (done.map (Txt.join " ")).map D.str) ⟨none, [], rows, rfl, rfl, by simp, rfl⟩ ?_ ?_
    · rintro acc ρ ⟨t, done, left, rfl, hd, hr, rfl⟩
      have hl0 : left = [] := List.map_eq_nil_iff.mp hr.symm
      subst hl0
      rw [List.append_nil] at hd
      subst hd
      have := len_map_words h
      have e3 : (Str.ofString " ; ").length = 3 := by decide +kernel
      simp [strsOf_map, -List.map_map]
      rw [e3]
      refine ⟨by omega, hq⟩
    · rintro y r acc ρ ⟨t, done, left, rfl, hd, hr, rfl⟩
      cases left with
      | nil => cases hr
      | cons zs left =>
        rw [List.map_cons] at hr
        injection hr with h1 h2
        subst h1
        subst h2
        have hz := h zs (by rw [hd]; simp)
        obtain ⟨a, b⟩ := deed_nm hz
        have hs := Dn.len_sum a
        have hlen := congrArg List.length hd
        rw [List.length_append, List.length_cons] at hlen
        have e3 : (Str.ofString " ").length = 1 := by decide +kernel
        simp [m_join_t, strsOf_map, -List.map_map]
        rw [e3]
        exact ⟨by omega, by rw [sizeLine_eq]; omega, done ++ [zs], left, by rw [hd]; simp, rfl, by simp⟩
theorem format_w {rows : List (List Str)} (h : ∀ zs ∈ rows, DeedS zs) (hl : rows.length ≤ 60) (e : x = .tup (rows.map tupS) ∨ x = .lst (rows.map tupS)) (hq : Q (.d (.str (textS rows))) [.d x]) : wF F_format_deeds [.d x] Q E := by
  have : F_format_deeds = F__law_text := rfl
  rw [this]
  exact text_w h hl e hq
end
/-! a text's parts -/
def parts (z : Str) : List D := (Txt.split z " ; ").map fun p => tupS (Txt.split p " ")
theorem inS_abc : ∀ c, 97 ≤ c → c < 123 → inS ⟨#[c]⟩ ABC = true := by
  have h : ∀ i : Fin 26, inS ⟨#[97 + i.val]⟩ ABC = true := by decide +kernel
  intro c h1 h2
  have := h ⟨c - 97, by omega⟩
  simp only at this
  rw [show 97 + (c - 97) = c by omega] at this
  exact this
theorem nam_b {z : Str} (h : NamS z) : nameB (.str z) = true := by
  show (decide (1 ≤ z.length ∧ z.length ≤ 6) && z.cps.toList.all fun c => inS ⟨#[c]⟩ ABC) = true
  rw [decide_eq_true ⟨h.2, h.1.2⟩, Bool.true_and, List.all_eq_true]
  intro c hc
  have := low_iff.mp h.1.1 c hc
  exact inS_abc c this.1 this.2
theorem wl_v : wl "lay" = 3 ∧ wl "lift" = 3 ∧ wl "share" = 3 ∧ wl "empty" = 2 := by decide +kernel
theorem deed_b {zs : List Str} (h : DeedS zs) : deedB (tupS zs) = true := by
  obtain ⟨w1, w2, w3, w4⟩ := wl_v
  rcases h with ⟨w, h, s, rfl, hw, nh, ns⟩ | ⟨s, rfl, ns⟩
  · show (decide (wl w = ((2 + 1 : Nat) : Int)) && (nameB (.str h) && (nameB (.str s) && true))) = true
    rw [nam_b nh, nam_b ns]
    rcases hw with rfl | rfl | rfl
    · rw [w1]; rfl
    · rw [w2]; rfl
    · rw [w3]; rfl
  · show (decide (wl "empty" = ((1 + 1 : Nat) : Int)) && (nameB (.str s) && true)) = true
    rw [nam_b ns, w4]
    rfl
theorem low_no {n : Nat} {z : Str} (h : Lo n z) : 32 ∉ tl z ∧ 59 ∉ tl z := ⟨fun hc => by have := low_iff.mp h.1 _ hc; omega, fun hc => by have := low_iff.mp h.1 _ hc; omega⟩
theorem deed_no {zs : List Str} (h : DeedS zs) : ∀ z ∈ zs, 32 ∉ tl z ∧ 59 ∉ tl z := by
  have k : ∀ w ∈ (["lay", "lift", "share", "empty"] : List Str), Lo 6 w := fun w hw => by
    simp only [List.mem_cons, List.not_mem_nil, or_false] at hw
    rcases hw with rfl | rfl | rfl | rfl <;> exact ⟨by decide +kernel, by decide +kernel⟩
  rcases h with ⟨w, h, s, rfl, hw, nh, ns⟩ | ⟨s, rfl, ns⟩
  · intro z hz
    simp only [List.mem_cons, List.not_mem_nil, or_false] at hz
    rcases hz with rfl | rfl | rfl
    · exact low_no (k _ (by rcases hw with rfl | rfl | rfl <;> simp))
    · exact low_no nh.1
    · exact low_no ns.1
  · intro z hz
    simp only [List.mem_cons, List.not_mem_nil, or_false] at hz
    rcases hz with rfl | rfl
    · exact low_no (k _ (by simp))
    · exact low_no ns.1
theorem parts_text {rows : List (List Str)} (h : ∀ zs ∈ rows, DeedS zs) (h0 : rows ≠ []) : parts (textS rows) = rows.map tupS := by
  unfold textS parts
  rw [if_neg h0, split_semi (by simpa using h0) fun p hp => ?_, List.map_map]
  · refine List.map_congr_left fun zs hz => ?_
    show tupS (Txt.split (Txt.join " " zs) " ") = tupS zs
    rw [split_sp (h zs hz).ne fun p hp => (deed_no (h zs hz) p hp).1]
  · obtain ⟨zs, hz, rfl⟩ := List.mem_map.mp hp
    intro hc
    rw [TL.join_eq, TL.tl_join] at hc
    rcases joinL_mem hc with hc | ⟨q, hq, hc⟩
    · have : (59 : Nat) ∉ tl (" " : Str) := by decide +kernel
      exact this hc
    · obtain ⟨z, hz2, rfl⟩ := List.mem_map.mp hq
      exact (deed_no (h zs hz) z hz2).2 hc
theorem dash_parts : parts "-" = [tupS [("-" : Str)]] := by
  unfold parts
  have e1 : Txt.split "-" " ; " = [("-" : Str)] := by decide +kernel
  have e2 : Txt.split "-" " " = [("-" : Str)] := by decide +kernel
  rw [e1, List.map_singleton, e2]
theorem text_dash {rows : List (List Str)} (h : ∀ zs ∈ rows, DeedS zs) (h0 : rows ≠ []) : textS rows ≠ "-" := by
  intro e
  have h1 := parts_text h h0
  rw [e, dash_parts] at h1
  have h2 : deedB (tupS [("-" : Str)]) = true := by
    have hm : tupS [("-" : Str)] ∈ rows.map tupS := by rw [← h1]; simp
    obtain ⟨zs, hz, e⟩ := List.mem_map.mp hm
    rw [← e]
    exact deed_b (h zs hz)
  have : deedB (tupS [("-" : Str)]) = false := by decide +kernel
  rw [this] at h2
  cases h2
end Dn.k08
end

section
set_option Elab.async false
set_option linter.all false
set_option maxRecDepth 100000
set_option maxHeartbeats 4000000
namespace Dn.k08
open PySem PySem.Spec L2 Dn Dn.C
open TL (tl)
/-! what is told of a text -/
def refT (xs : List D) : Option Exn := match xs.findIdx? (fun y => !deedB y) with
  | some i => some ⟨"NoText", [("at", .int (i : Nat))]⟩
  | none => match irr xs 0 [] with
    | some i => some ⟨"Irregular", [("at", .int (i : Nat))]⟩
    | none => none
def toldT (z : Str) : D := if z = "-" then .tup [] else match (parts z).findIdx? (fun y => !deedB y) with
  | some i => .tup [.str "text", .int (i : Nat)]
  | none => match irr (parts z) 0 [] with
    | some i => .tup [.str "irregular", .int (i : Nat)]
    | none => .tup (parts z)
theorem mvs_words : ∀ zs : List Str, mvs (zs.map D.str) ≤ 10 * ((zs.map (·.length)).sum + zs.length)
  | [] => Nat.le_refl _
  | z :: zs => by
    have ih := mvs_words zs
    simp only [List.map_cons, mvs, mv, List.sum_cons, List.length_cons]
    omega
theorem sz_semi {z : Str} (h : PyData.strOk z = true) : ((Txt.split z " ; ").map (·.length)).sum + (Txt.split z " ; ").length ≤ z.length + 1 ∧ ∀ p ∈ Txt.split z " ; ", PyData.strOk p = true ∧ p.length ≤ z.length :=
  split_size (by decide +kernel) (by decide +kernel) h
theorem sz_sp {z : Str} (h : PyData.strOk z = true) : ((Txt.split z " ").map (·.length)).sum + (Txt.split z " ").length ≤ z.length + 1 ∧ ∀ p ∈ Txt.split z " ", PyData.strOk p = true ∧ p.length ≤ z.length :=
  split_size (by decide +kernel) (by decide +kernel) h
theorem mv_part {p : Str} (h : PyData.strOk p = true) : mv (tupS (Txt.split p " ")) ≤ 10 * p.length + 14 := by
  have h1 := (sz_sp h).1
  have h2 := mvs_words (Txt.split p " ")
  rw [mv]
  omega
theorem mvs_parts : ∀ {ps : List Str}, (∀ p ∈ ps, PyData.strOk p = true) → mvs (ps.map fun p => tupS (Txt.split p " ")) ≤ 16 * ((ps.map (·.length)).sum + ps.length)
  | [], _ => Nat.le_refl _
  | p :: ps, h => by
    have ih := mvs_parts (ps := ps) fun q hq => h q (List.mem_cons_of_mem _ hq)
    have h1 := mv_part (h p List.mem_cons_self)
    rw [List.map_cons, List.map_cons, mvs, List.sum_cons, List.length_cons]
    omega
theorem parts_mv {z : Str} (h : PyData.strOk z = true) : mvs (parts z) ≤ 16 * (z.length + 1) := by
  have h1 := (sz_semi h).1
  have h2 := mvs_parts (ps := Txt.split z " ; ") fun p hp => ((sz_semi h).2 p hp).1
  exact Nat.le_trans h2 (by omega)
theorem parts_val {z : Str} (h : PyData.strOk z = true) : ∀ y ∈ parts z, Val 1 y := fun y hy => by
  obtain ⟨p, hp, rfl⟩ := List.mem_map.mp hy
  refine .tup fun d hd => ?_
  obtain ⟨w, hw, rfl⟩ := List.mem_map.mp hd
  exact .str (((sz_sp ((sz_semi h).2 p hp).1).2 w hw).1)
theorem parts_len {z : Str} (h : PyData.strOk z = true) : (parts z).length ≤ z.length + 1 := by
  have := (sz_semi h).1
  unfold parts
  rw [List.length_map]
  omega
theorem told_val {z : Str} (h : PyData.strOk z = true) (hz : z.length ≤ 20000) : Val 2 (toldT z) ∧ mv (toldT z) ≤ 400000 := by
  have hl := parts_len h
  have key : ∀ (w : Str) (i : Nat), PyData.strOk w = true → w.length ≤ 20 → i < 1000000000 → Val 2 (.tup [.str w, .int (i : Nat)]) ∧ mv (.tup [.str w, .int (i : Nat)]) ≤ 400000 := by
    intro w i hw hl hi
    refine ⟨.tup fun y hy => ?_, ?_⟩
    · simp only [List.mem_cons, List.not_mem_nil, or_false] at hy
      rcases hy with rfl | rfl
      · exact .str hw
      · exact .int (by omega)
    · simp only [mv, mvs]
      omega
  unfold toldT
  split
  · exact ⟨.tup (by simp), by decide⟩
  · split
    · rename_i i ef
      have hi := (List.findIdx?_eq_some_iff_getElem.mp ef).1
      exact key "text" i (by decide +kernel) (by decide +kernel) (by omega)
    · split
      · rename_i i ei
        have hi := irr_lt _ _ _ _ ei
        exact key "irregular" i (by decide +kernel) (by decide +kernel) (by omega)
      · refine ⟨.tup fun y hy => parts_val h y hy, ?_⟩
        have := parts_mv h
        rw [mv]
        omega
section
variable {Q : R → List S → Prop} {E : Exn → List S → Prop} {z : Str}
theorem refuse_all {xs : List D} (h : ∀ y ∈ xs, deedB y = true) : refuse xs = match irr xs 0 [] with
    | some i => some ⟨"Irregular", [("at", .int (i : Nat))]⟩
    | none => none := by
  have ef : xs.findIdx? (fun y => !deedB y) = none := by
    rw [List.findIdx?_eq_none_iff]
    intro y hy
    rw [h y hy]
    rfl
  unfold refuse
  first
    | (rw [ef]; done)
    | (rw [ef]; rfl)
theorem parse_w (hok : PyData.strOk z = true) (hz : z.length ≤ 20000) (h : if z = "-" then Q (.d (.tup [])) [.d (.str z)] else match refT (parts z) with
    | some e => E e [.d (.str z)]
    | none => Q (.d (.tup (parts z))) [.d (.str z)]) : wF F_parse_deeds [.d (.str z)] Q E := by
  have hsp1 : (Str.ofString " ; ").length = 3 := by decide +kernel
  have hsp2 : (Str.ofString " ").length = 1 := by decide +kernel
  have hmv := parts_mv hok
  have hpl := parts_len hok
  unfold F_parse_deeds G_parse_deeds
  rw [wF_fn]
  refine ⟨rfl, ?_⟩
  simp
  by_cases hd : z = "-"
  · rw [if_pos hd] at h ⊢
    exact h
  · rw [if_neg hd] at h ⊢
    simp [hsp1]
    refine ⟨by rw [sizeLine_eq]; omega, ?_⟩
    have el : (Txt.split z " ; ").length = (parts z).length := by unfold parts; rw [List.length_map]
    have eg : ∀ (m : Nat) (h1 : m < (Txt.split z " ; ").length), (parts z)[m]'(by omega) = D.tup ((Txt.split (Txt.split z " ; ")[m] " ").map D.str) := fun m h1 => by simp [parts]
    rw [show (Txt.split z " ; ").length = ((Txt.split z " ; ").map D.str).length by rw [List.length_map]]
    refine wS.forI (fun r ρ => ∃ (t u v : Option S) (m : Nat), ρ = [some (.d (.str z)), some (.o (.lst ((parts z).take m))), t, u, v] ∧ r = (pairs (rng 0 ((Txt.split z " ; ").map D.str).length) ((Txt.split z " ; ").map D.str)).drop m ∧ m ≤ (parts z).length ∧ ∀ (i : Nat) (hi : i < (parts z).length), i < m → deedB (parts z)[i] = true) ⟨none, none, none, 0, rfl, rfl, by omega, fun i hi hm => by omega⟩ ?_ ?_
    · rintro ρ ⟨t, u, v, m, rfl, hr, hm, hb⟩
      have hlm := drop_all hr.symm
      rw [List.length_map] at hlm
      obtain ⟨hall, ef⟩ := no_idx (m := m) (by omega) hb
      rw [List.take_of_length_le (by omega)]
      unfold refT at h
      rw [ef] at h
      dsimp only at h
      simp
      refine check_s (xs := parts z) (.inr ⟨rfl, rfl⟩) (.lst fun y hy => (parts_val hok y hy).mono (by omega)) (by rw [mv]; omega) (.inr rfl) ?_
      rw [refuse_all hall]
      cases ei : irr (parts z) 0 [] with
      | some i =>
        rw [ei] at h
        simp
        exact h
      | none =>
        rw [ei] at h
        simp
        exact h
    · rintro y r ρ ⟨t, u, v, m, rfl, hr, hm, hb⟩
      obtain ⟨hlt, rfl, er⟩ := drop_pairs hr.symm
      rw [List.length_map] at hlt
      have hlt2 : m < (parts z).length := by omega
      have hpm : (Txt.split z " ; ")[m] ∈ Txt.split z " ; " := List.getElem_mem hlt
      have hpk := (sz_semi hok).2 _ hpm
      have hym : (parts z)[m] ∈ parts z := List.getElem_mem hlt2
      have hvy := parts_val hok _ hym
      have hmy := mvs_mem hym
      have ey := eg m hlt
      rw [ey] at hvy hmy
      simp [hsp2]
      refine ⟨by rw [sizeLine_eq]; omega, ?_⟩
      refine is_deed_w hvy.ok (by omega) ?_
      rw [← ey]
      simp
      cases eb : deedB (parts z)[m] with
      | false =>
        have ef := at_idx hlt2 eb hb
        unfold refT at h
        rw [ef] at h
        simp [exFs]
        exact h
      | true =>
        simp
        refine ⟨by rw [sizeLine_eq]; omega, ?_⟩
        refine ⟨_, _, _, m + 1, ⟨rfl, rfl, rfl, rfl⟩, by simpa using er, by omega, fun i hi hlt3 => ?_⟩
        by_cases e : i = m
        · subst e; exact eb
        · exact hb i hi (by omega)
theorem due_w (hok : PyData.strOk z = true) (hz : z.length ≤ 20000) (h : Q (.d (toldT z)) [.d (.str z)]) : wF F__law_due [.d (.str z)] Q E := by
  have hsp1 : (Str.ofString " ; ").length = 3 := by decide +kernel
  have hsp2 : (Str.ofString " ").length = 1 := by decide +kernel
  have hmv := parts_mv hok
  have hpl := parts_len hok
  unfold F__law_due G__law_due
  rw [wF_fn]
  refine ⟨rfl, ?_⟩
  simp
  unfold toldT at h
  by_cases hd : z = "-"
  · rw [if_pos hd] at h ⊢
    exact h
  · rw [if_neg hd] at h ⊢
    simp [hsp1]
    refine ⟨by rw [sizeLine_eq]; omega, ?_⟩
    refine wE.compI (fun r acc ρ => ∃ t done left, ρ = [some (.d (.str z)), none, none, none, t] ∧ Txt.split z " ; " = done ++ left ∧ r = left.map D.str ∧ acc = done.map fun p => tupS (Txt.split p " ")) ⟨none, [], Txt.split z " ; ", rfl, rfl, rfl, rfl⟩ ?_ ?_
    · rintro acc ρ ⟨t, done, left, rfl, hd, hr, rfl⟩
      have hl0 : left = [] := List.map_eq_nil_iff.mp hr.symm
      subst hl0
      rw [List.append_nil] at hd
      rw [← hd]
      rw [show ((Txt.split z (Str.ofString " ; ")).map fun p => tupS (Txt.split p " ")) = parts z from rfl]
      simp
      refine wS.forI (fun r ρ => ∃ (u v t : Option S) (m : Nat), ρ = [some (.d (.str z)), some (.d (.lst (parts z))), u, v, t] ∧ r = (pairs (rng 0 (parts z).length) (parts z)).drop m ∧ ∀ (i : Nat) (hi : i < (parts z).length), i < m → deedB (parts z)[i] = true) ⟨none, none, t, 0, rfl, rfl, fun i hi hm => by omega⟩ ?_ ?_
      · rintro ρ ⟨u, v, t, m, rfl, hr, hb⟩
        have hlm := drop_all hr.symm
        obtain ⟨hall, ef⟩ := no_idx (m := m) (by omega) hb
        rw [ef] at h
        dsimp only at h
        simp
        refine first_w (xs := parts z) (fun y hy => (parts_val hok y hy).mono (by omega)) (by omega) (.inr rfl) hall ?_
        cases ei : irr (parts z) 0 [] with
        | some i =>
          rw [ei] at h
          simp
          exact h
        | none =>
          rw [ei] at h
          simp
          exact h
      · rintro y r ρ ⟨u, v, t, m, rfl, hr, hb⟩
        obtain ⟨hlt, rfl, er⟩ := drop_pairs hr.symm
        have hym : (parts z)[m] ∈ parts z := List.getElem_mem hlt
        have hmy := mvs_mem hym
        simp
        refine law_deed_w ((parts_val hok _ hym).mono (by omega)) (by omega) ?_
        simp
        cases eb : deedB (parts z)[m] with
        | true =>
          simp
          refine ⟨m + 1, er, fun i hi hlt2 => ?_⟩
          by_cases e : i = m
          · subst e; exact eb
          · exact hb i hi (by omega)
        | false =>
          have ef := at_idx hlt eb hb
          rw [ef] at h
          simp
          exact h
    · rintro y r acc ρ ⟨t, done, left, rfl, hd, hr, rfl⟩
      cases left with
      | nil => cases hr
      | cons p left =>
        rw [List.map_cons] at hr
        injection hr with h1 h2
        subst h1
        subst h2
        have hpm : p ∈ Txt.split z " ; " := by rw [hd]; simp
        have hpk := (sz_semi hok).2 p hpm
        have hcnt := (sz_semi hok).1
        have hlen := congrArg List.length hd
        rw [List.length_append, List.length_cons] at hlen
        simp [hsp2]
        exact ⟨by rw [sizeLine_eq]; omega, by rw [sizeLine_eq]; omega, done ++ [p], left, by rw [hd]; simp, rfl, by simp⟩
theorem c1 : crel "NoText" "FoundError" = true ∧ crel "Irregular" "FoundError" = true ∧ crel "NoText" "NoText" = true ∧ crel "Irregular" "Irregular" = true ∧ crel "NoText" "Irregular" = false ∧ crel "Irregular" "NoText" = false := by decide +kernel
theorem c2 : ∀ y ∈ (["Blocked", "NoDeed", "NoWord"] : List Str), crel "NoText" y = false ∧ crel "Irregular" y = false := by decide +kernel
theorem m1 : ("NoText" : Str) ∈ cxs ∧ ("Irregular" : Str) ∈ cxs := by decide +kernel
theorem told_w (hok : PyData.strOk z = true) (hz : z.length ≤ 20000) (h : Q (.d (toldT z)) [.d (.str z)]) : wF F__law_told [.d (.str z)] Q E := by
  obtain ⟨a1, a2, a3, a4, a5, a6⟩ := c1
  have b := c2
  simp at b
  unfold F__law_told G__law_told
  rw [wF_fn]
  refine ⟨rfl, ?_⟩
  simp
  refine parse_w hok hz ?_
  unfold toldT at h
  by_cases hd : z = "-"
  · rw [if_pos hd] at h ⊢
    simp
    exact h
  · rw [if_neg hd] at h ⊢
    unfold refT
    cases ef : (parts z).findIdx? (fun y => !deedB y) with
    | some i =>
      rw [ef] at h
      simp [a1, a3, a5, b, m1]
      exact h
    | none =>
      rw [ef] at h
      dsimp only at h ⊢
      cases ei : irr (parts z) 0 [] with
      | some i =>
        rw [ei] at h
        simp [a2, a4, a6, b, m1]
        exact h
      | none =>
        rw [ei] at h
        simp
        exact h
end
end Dn.k08
end

section
set_option Elab.async false
set_option linter.all false
set_option maxRecDepth 100000
set_option maxHeartbeats 4000000
namespace Dn.k08
open PySem PySem.Spec L2 Dn Dn.C
open TL (tl)
/-! texts with one thing changed -/
def TxD (n : Nat) (y : D) : Prop := ∃ z, y = .str z ∧ Dn.Nm n z
theorem TxD.list {n : Nat} : ∀ {ds : List D}, (∀ d ∈ ds, TxD n d) → ∃ ys : List Str, ds = ys.map D.str ∧ ∀ y ∈ ys, Dn.Nm n y := Dn.NmD.list
theorem chars_tx {n : Nat} {z : Str} (h : Dn.Nm n z) : ∀ y ∈ chars z, TxD 1 y := fun y hy => by
  obtain ⟨c, hc, rfl⟩ := List.mem_map.mp hy
  exact ⟨_, rfl, Dn.Nm.chr h hc⟩
theorem TxD.mono {m n : Nat} {y : D} (h : TxD m y) (hk : m ≤ n) : TxD n y := let ⟨z, e, hz⟩ := h; ⟨z, e, hz.mono hk⟩
theorem join0_nm {n : Nat} {ys : List Str} (h : ∀ y ∈ ys, Dn.Nm n y) : Dn.Nm (n * ys.length) (Txt.join "" ys) := Dn.Nm.join h
theorem signs_nm {n : Nat} {z : Str} (h : Dn.Nm n z) : Dn.Nm n (Txt.join "" (PyProof.Rows.signs z)) := by
  have h1 : ∀ y ∈ PyProof.Rows.signs z, Dn.Nm 1 y := fun y hy => by
    obtain ⟨c, hc, rfl⟩ := List.mem_map.mp hy
    exact Dn.Nm.chr h hc
  have h2 : (PyProof.Rows.signs z).length = z.length := by
    unfold PyProof.Rows.signs
    rw [List.length_map]
    show _ = z.cps.size
    simp
  refine (join0_nm h1).mono ?_
  rw [h2]
  have := h.2
  omega
def sgB (z : Str) : Bool := PyData.strOk z && decide (z.length ≤ 7)
theorem sg_nm {zs : List Str} (h : zs.all sgB = true) : ∀ y ∈ zs.map D.str, TxD 7 y := fun y hy => by
  obtain ⟨z, hz, rfl⟩ := List.mem_map.mp hy
  have h := List.all_eq_true.mp h z hz
  unfold sgB at h
  rw [Bool.and_eq_true] at h
  exact ⟨z, rfl, h.1, of_decide_eq_true h.2⟩
/-- the words of the deeds, as lists -/
def RowL (y : D) : Prop := ∃ zs : List Str, y = .lst (zs.map D.str) ∧ zs.length ≤ 5 ∧ ∀ z ∈ zs, Dn.Nm 7 z
def joinR : DS := (sSeq (sRet (mR "str" (xC (.str " ; ")) [(xLc (itSeq (xVar 5)) [8] (gNm 8) (rE true) (mR "str" (xC (.str " ")) [(xVar 8)] kJoinS))] kJoinS))
    sSkip)
def oneW (F__law_take F__law_spoilt : FD) : DS := (sSeq (sSet 6 (dCall F__law_take [(xVar 0), (oN [(xVar 5)] kLen)] []))
    (sSeq (sSt2 (xSl (oN [(dCall F__law_spoilt [(xVar 0), (o2 (o2 (xVar 5) (xVar 6) kIx2) (xLst [(xC (.str ""))]) kAdd), (xVar 4)] [])] kListS) eNo (eI (xC (.int 5)))) (xVar 5) (xVar 6))
    sSkip))
def oneD (F__law_take : FD) : DS := (sSeq (sSet 6 (dCall F__law_take [(xVar 0), (oN [(xVar 5)] kLen)] []))
    (sSeq (sSet 7 (o1 (xSl (xVar 5) (eI (xVar 6)) (eI (o2 (xVar 6) (xC (.int 2)) kAdd))) kRev))
    (sSeq (sSlS (o2 (xVar 7) (o2 (xSl (xVar 5) (eI (xVar 6)) (eI (o2 (xVar 6) (xC (.int 1)) kAdd))) (dCall F__law_take [(xVar 0), (xC (.int 2))] []) kMul) kAdd) (xVar 5) (xVar 6) (o2 (xVar 6) (xC (.int 2)) kAdd))
    sSkip)))
theorem G_odd (F : FD) : G__law_odd_text F__law_take F F__law_text = (sSeq (sPar [2, 3] [(dCall F__law_take [(xVar 0), (xC (.int 3))] []), (o2 (oN [(xC (.str " ;-abyAslt0"))] kListS) (xLst [(xC (.str " ; "))]) kAdd)])
    (sSeq (sIf (tB (o2 (xVar 2) (xC (.int 0)) kEq)) (sSeq (sRet (mR "str" (xC (.str "")) [(xSl (dCall F [(xVar 0), (o2 (oN [(dCall F__law_text [(xVar 1)] [])] kListS) (xLst [(xC (.str " "))]) kAdd), (xVar 3)] []) eNo (eI (xC (.int 3900))))] kJoinS))
    sSkip) sSkip)
    (sSeq (sSet 4 (xLst [(xC (.str "")), (xC (.str "lay")), (xC (.str "lift")), (xC (.str "share")), (xC (.str "empty")), (xC (.str "a")), (xC (.str "s")), (xC (.str ";")), (xC (.str "-")), (xC (.str "abcdefg")), (xC (.str "A"))]))
    (sSeq (sSet 5 (o2 (xLc (itSeq (xVar 1)) [8] (gNm 8) (rE true) (oN [(xVar 8)] kListS)) (xLst [(xLst [(xC (.str "lay")), (xC (.str "a")), (xC (.str "s"))])]) kAdd))
    (sSeq (sIf (tB (o2 (xVar 2) (xC (.int 1)) kEq)) (oneW F__law_take F) (oneD F__law_take))
    joinR))))) := rfl
section
variable {a b c : Int} {Q : R → List S → Prop} {E : Exn → List S → Prop} {P : Ctl → Env → Prop} {u1 u2 u3 u4 u6 u7 u8 : Option S}
theorem words_all : ([("" : Str), "lay", "lift", "share", "empty", "a", "s", ";", "-", "abcdefg", "A"] : List Str).all sgB = true := by decide +kernel
theorem join_w {L : List D} (hL : ∀ y ∈ L, RowL y) (hl : L.length ≤ 300) (h : ∀ z s5 v8, Dn.Nm 20000 z → P (.rt (.d (.str z))) [some (bx a b c), u1, u2, u3, u4, s5, u6, u7, v8]) :
    wS joinR [some (bx a b c), u1, u2, u3, u4, some (.o (.lst L)), u6, u7, u8] P := by
  have e3 : (Str.ofString " ; ").length = 3 := by decide +kernel
  have e1 : (Str.ofString " ").length = 1 := by decide +kernel
  unfold joinR
  simp [bx]
  refine wE.compI (fun r acc ρ => ∃ t, ∃ ps : List Str, ρ = [some (bx a b c), u1, u2, u3, u4, some (.d (.lst L)), u6, u7, t] ∧ acc = ps.map D.str ∧ (∀ p ∈ ps, Dn.Nm 40 p) ∧ ps.length + r.length ≤ 300 ∧ ∀ y ∈ r, RowL y) ⟨u8, [], rfl, rfl, by simp, by simpa using hl, hL⟩ ?_ ?_
  · rintro acc ρ ⟨t, ps, rfl, rfl, hp, hpl, _⟩
    simp at hpl
    have hs := Dn.len_sum hp
    simp [strsOf_map, e3, bx]
    exact ⟨by omega, h _ _ _ ((join_nm sp1.2 hp).mono (by omega))⟩
  · rintro y r acc ρ ⟨t, ps, rfl, rfl, hp, hpl, hr⟩
    obtain ⟨zs, rfl, hz5, hz⟩ := hr y List.mem_cons_self
    simp at hpl
    have hs := Dn.len_sum hz
    simp [strsOf_map, e1, bx]
    refine ⟨by omega, by rw [sizeLine_eq]; omega, ps ++ [Txt.join " " zs], by simp, fun p hp2 => ?_, by simp; omega, fun y hy => hr y (List.mem_cons_of_mem _ hy)⟩
    rcases List.mem_append.mp hp2 with hp2 | hp2
    · exact hp p hp2
    · rw [List.mem_singleton.mp hp2]
      exact (join_nm sp1.1 hz).mono (by omega)
theorem rowL_cut {zs : List Str} (hz : ∀ z ∈ zs, Dn.Nm 7 z) : RowL (.lst (Dn.cut (zs.map D.str) none (some 5))) := by
  have e : Dn.cut (zs.map D.str) none (some 5) = (zs.take 5).map D.str := by
    have := cut_to (xs := zs.map D.str) (j := 5)
    rw [List.map_take]
    exact this
  rw [e]
  exact ⟨_, rfl, List.length_take_le _ _, fun z hz2 => hz z (List.mem_of_mem_take hz2)⟩
theorem oneW_w {L : List D} (hL : ∀ y ∈ L, RowL y) (h0 : L ≠ []) (hl : L.length ≤ 60) (h : ∀ L' a b c v6, (∀ y ∈ L', RowL y) → L'.length ≤ 300 → P .nx [some (bx a b c), u1, u2, u3, some (.o (.lst (([("" : Str), "lay", "lift", "share", "empty", "a", "s", ";", "-", "abcdefg", "A"] : List Str).map D.str))), some (.o (.lst L')), v6, u7, u8]) :
    wS (oneW F__law_take (F__law_spoilt 24)) [some (bx a b c), u1, u2, u3, some (.o (.lst (([("" : Str), "lay", "lift", "share", "empty", "a", "s", ";", "-", "abcdefg", "A"] : List Str).map D.str))), some (.o (.lst L)), u6, u7, u8] P := by
  have hlp := List.length_pos_iff.mpr h0
  generalize hW : ([("" : Str), "lay", "lift", "share", "empty", "a", "s", ";", "-", "abcdefg", "A"] : List Str) = W at h ⊢
  have hWall : W.all sgB = true := by rw [← hW]; exact words_all
  have hWl : W.length = 11 := by rw [← hW]; rfl
  unfold oneW
  simp [bx]
  refine take_w (m := (L.length : Int)) (by omega) (by omega) fun i a b c i0 i1 => ?_
  obtain ⟨k, rfl⟩ := Int.eq_ofNat_of_zero_le i0
  have hk : k < L.length := by omega
  have ek : atI L (k : Int) = some L[k] := by rw [atI_nn, List.getElem?_eq_getElem hk]
  have exn : ixN L.length (k : Int) = some k := by
    unfold ixN
    rw [if_pos (by omega), if_pos (by omega)]
    simp
  obtain ⟨zs, ey, hz5, hz⟩ := hL _ (List.getElem_mem hk)
  simp [bx, ek, ey]
  refine ⟨by rw [sizeLine_eq]; omega, ?_⟩
  have hx : ∀ y ∈ zs.map D.str ++ [.str ""], TxD 7 y := fun y hy => by
    rcases List.mem_append.mp hy with hy | hy
    · obtain ⟨z, hz2, rfl⟩ := List.mem_map.mp hy
      exact ⟨z, rfl, hz z hz2⟩
    · rw [List.mem_singleton.mp hy]
      exact ⟨_, rfl, by decide +kernel, by decide +kernel⟩
  have hset : ∀ y, RowL y → ∀ d ∈ L.set k y, RowL d := fun y hy d hd => by
    rcases List.mem_or_eq_of_mem_set hd with hd | rfl
    · exact hL d hd
    · exact hy
  refine spoilt_l (N := 22) (T := TxD 7) (by rw [← hW]; simp) (by rw [List.length_map]; omega) (sg_nm hWall) (by simp) (by simp; omega) hx (fun y ⟨z, e, _⟩ => ⟨z, e⟩) fun y a b c hy => ?_
  rcases hy with ⟨z, rfl, hz7⟩ | ⟨rows, rfl, hr, hrl⟩
  · simp
    refine ⟨by have := hz7.2; rw [sizeLine_eq]; omega, ?_⟩
    simp [exn]
    refine h _ a b c _ (hset _ ?_) (by rw [List.length_set]; omega)
    obtain ⟨ys, ey, hys⟩ := TxD.list (chars_tx hz7)
    rw [ey]
    exact rowL_cut fun z hz => (hys z hz).mono (by omega)
  · simp [exn]
    refine h _ a b c _ (hset _ ?_) (by rw [List.length_set]; omega)
    obtain ⟨ys, ey, hys⟩ := TxD.list hr
    rw [ey]
    exact rowL_cut hys
theorem oneD_w {L : List D} (hL : ∀ y ∈ L, RowL y) (h0 : L ≠ []) (hl : L.length ≤ 60) (h : ∀ L' a b c v6 v7, (∀ y ∈ L', RowL y) → L'.length ≤ 300 → P .nx [some (bx a b c), u1, u2, u3, u4, some (.o (.lst L')), v6, v7, u8]) :
    wS (oneD F__law_take) [some (bx a b c), u1, u2, u3, u4, some (.o (.lst L)), u6, u7, u8] P := by
  have hlp := List.length_pos_iff.mpr h0
  unfold oneD
  simp [bx]
  refine take_w (m := (L.length : Int)) (by omega) (by omega) fun i a b c i0 i1 => ?_
  obtain ⟨k, rfl⟩ := Int.eq_ofNat_of_zero_le i0
  have hk : k < L.length := by omega
  simp [bx]
  refine take_w (m := 2) (by omega) (by omega) fun n a b c n0 n1 => ?_
  have c1 := cut_len L (some (k : Int)) (some ((k : Int) + 2))
  have c2 := cut_len L (some (k : Int)) (some ((k : Int) + 1))
  have hr : (List.replicate n.toNat (Dn.cut L (some (k : Int)) (some ((k : Int) + 1)))).flatten.length ≤ L.length := by
    have hn : n.toNat = 0 ∨ n.toNat = 1 := by omega
    rcases hn with e | e <;> rw [e] <;> simp <;> omega
  have hn : n.toNat = 0 ∨ n.toNat = 1 := by omega
  have hm : (Dn.cut L (some (k : Int)) (some ((k : Int) + 1))).length * n.toNat ≤ L.length := by
    rcases hn with e | e <;> rw [e] <;> omega
  simp [bx]
  rw [sizeLine_eq]
  have hm2 : n.toNat * (Dn.cut L (some (k : Int)) (some ((k : Int) + 1))).length ≤ L.length := by rw [Nat.mul_comm]; exact hm
  refine ⟨⟨by omega, by omega, by omega⟩, by omega, ⟨by omega, by omega, by omega⟩, h _ a b c _ _ (fun y hy => ?_) ?_⟩
  · simp only [List.mem_append, List.mem_reverse] at hy
    rcases hy with hy | hy | hy | hy
    · exact hL y (List.mem_of_mem_take hy)
    · exact hL y (cut_mem hy)
    · obtain ⟨l, hl2, hy⟩ := List.mem_flatten.mp hy
      rw [List.eq_of_mem_replicate hl2] at hy
      exact hL y (cut_mem hy)
    · exact hL y (List.mem_of_mem_drop hy)
  · simp only [List.length_append, List.length_reverse, List.length_take, List.length_drop]
    omega
theorem odd_w {a0 b0 c0 : Int} {rows : List (List Str)} (hd : ∀ zs ∈ rows, DeedS zs) (hl : rows.length ≤ 56) (h : ∀ z a b c, Dn.Nm 20000 z → Q (.d (.str z)) [bx a b c, .d (.lst (rows.map tupS))]) : wF F__law_odd_text [bx a0 b0 c0, .d (.lst (rows.map tupS))] Q E := by
  have hsg : ∀ y ∈ chars " ;-abyAslt0", TxD 7 y := fun y hy => (chars_tx (n := 11) ⟨by decide +kernel, by decide +kernel⟩ y hy).mono (by omega)
  have hsl : (chars " ;-abyAslt0").length = 11 := by decide +kernel
  have hsz : ("" : Str).length = 0 := rfl
  have hnm := textS_nm hd (by omega)
  unfold F__law_odd_text
  rw [G_odd, wF_fn]
  refine ⟨rfl, ?_⟩
  simp [bx]
  refine take_w (m := 3) (by omega) (by omega) fun f a b c f0 f1 => ?_
  simp [bx]
  refine ⟨by decide +kernel, by rw [hsl, sizeLine_eq]; omega, ?_⟩
  generalize chars " ;-abyAslt0" = SG at hsg hsl ⊢
  have hits : ∀ y ∈ SG ++ [D.str " ; "], TxD 7 y := fun y hy => by
    rcases List.mem_append.mp hy with hy | hy
    · exact hsg y hy
    · rw [List.mem_singleton.mp hy]
      exact ⟨_, rfl, by decide +kernel, by decide +kernel⟩
  by_cases h0 : f = 0
  · rw [if_pos h0]
    refine text_w hd (by omega) (.inr rfl) ?_
    have hcl := chars_len (z := textS rows)
    simp
    refine ⟨by have := hnm.2; rw [sizeLine_eq]; omega, by have := hnm.2; rw [sizeLine_eq]; omega, ?_⟩
    have hxs : ∀ y ∈ chars (textS rows) ++ [D.str " "], TxD 7 y := fun y hy => by
      rcases List.mem_append.mp hy with hy | hy
      · exact (chars_tx hnm y hy).mono (by omega)
      · rw [List.mem_singleton.mp hy]
        exact ⟨_, rfl, by decide +kernel, by decide +kernel⟩
    refine spoilt_l (N := 22) (T := TxD 7) (by simp) (by simp; omega) hits (by simp) (by have := hnm.2; simp; omega) hxs (fun y ⟨z, e, _⟩ => ⟨z, e⟩) fun y a b c hy => ?_
    rcases hy with ⟨z, rfl, hz⟩ | ⟨rs, rfl, hr, hrl⟩
    · have hc := (Dn.Nm.cut (lo := none) (hi := some 3900) hz)
      simp
      refine ⟨by have := hz.2; rw [sizeLine_eq]; omega, ?_⟩
      rw [show (Str.ofString "").length = 0 from rfl]
      exact ⟨by have := hc.2; omega, h _ a b c ((signs_nm hc).mono (by omega))⟩
    · obtain ⟨ys, rfl, hys⟩ := TxD.list hr
      have e : Dn.cut (ys.map D.str) none (some 3900) = (ys.take 3900).map D.str := by
        have := cut_to (xs := ys.map D.str) (j := 3900)
        rw [List.map_take]
        exact this
      have hyt : ∀ y ∈ ys.take 3900, Dn.Nm 7 y := fun y hy => hys y (List.mem_of_mem_take hy)
      have hlt : (ys.take 3900).length ≤ 1502 := by
        have := hnm.2
        rw [List.length_map] at hrl
        simp at hrl
        rw [List.length_take]
        omega
      have hs := Dn.len_sum hyt
      simp
      rw [e, strsOf_map]
      simp only [wP_some]
      rw [show (Str.ofString "").length = 0 from rfl]
      exact ⟨by omega, h _ a b c ((join0_nm hyt).mono (by omega))⟩
  · rw [if_neg h0]
    refine wE.compI (fun r acc ρ => ∃ t, ∃ done left : List (List Str), ρ = [some (bx a b c), some (.d (.lst (rows.map tupS))), some (.d (.int f)), some (.o (.lst (SG ++ [D.str " ; "]))), some (.o (.lst (([("" : Str), "lay", "lift", "share", "empty", "a", "s", ";", "-", "abcdefg", "A"] : List Str).map D.str))), none, none, none, t] ∧ rows = done ++ left ∧ r = left.map tupS ∧ acc = done.map fun zs => D.lst (zs.map D.str)) ⟨none, [], rows, rfl, rfl, rfl, rfl⟩ ?_ ?_
    · rintro acc ρ ⟨t, done, left, rfl, hdn, hr, rfl⟩
      have hl0 : left = [] := List.map_eq_nil_iff.mp hr.symm
      subst hl0
      rw [List.append_nil] at hdn
      subst hdn
      simp [bx]
      refine ⟨by rw [sizeLine_eq]; omega, ?_⟩
      have hRL : ∀ y ∈ (rows.map fun zs => D.lst (zs.map D.str)) ++ [D.lst [.str "lay", .str "a", .str "s"]], RowL y := fun y hy => by
        rcases List.mem_append.mp hy with hy | hy
        · obtain ⟨zs, hz, rfl⟩ := List.mem_map.mp hy
          obtain ⟨p, q⟩ := deed_nm (hd zs hz)
          exact ⟨zs, rfl, by omega, fun z hz => (p z hz).mono (by omega)⟩
        · rw [List.mem_singleton.mp hy]
          refine ⟨[("lay" : Str), "a", "s"], rfl, by simp, fun z hz => ?_⟩
          simp only [List.mem_cons, List.not_mem_nil, or_false] at hz
          rcases hz with rfl | rfl | rfl <;> exact ⟨by decide +kernel, by decide +kernel⟩
      by_cases h1 : f = 1
      · rw [if_pos h1]
        refine oneW_w hRL (by simp) (by simp; omega) fun L' a b c v6 hL' hl' => ?_
        simp
        refine join_w hL' hl' fun z s5 v8 hz => ?_
        simp
        exact h z a b c hz
      · rw [if_neg h1]
        refine oneD_w hRL (by simp) (by simp; omega) fun L' a b c v6 v7 hL' hl' => ?_
        simp
        refine join_w hL' hl' fun z s5 v8 hz => ?_
        simp
        exact h z a b c hz
    · rintro y r acc ρ ⟨t, done, left, rfl, hdn, hr, rfl⟩
      cases left with
      | nil => cases hr
      | cons zs left =>
        rw [List.map_cons] at hr
        injection hr with h1 h2
        subst h1
        subst h2
        have hlen := congrArg List.length hdn
        rw [List.length_append, List.length_cons] at hlen
        simp [bx]
        exact ⟨by rw [sizeLine_eq]; omega, done ++ [zs], left, by rw [hdn]; simp, rfl, by simp⟩
end
end Dn.k08
end

section
set_option Elab.async false
set_option linter.all false
set_option maxRecDepth 100000
set_option maxHeartbeats 4000000
namespace Dn.k08
open PySem PySem.Spec L2 Dn Dn.C
/-! the law -/
def cmpT : DS := (sSeq (sSet 8 (dCall F__law_told [(xVar 6)] []))
    (sSeq (sIf (tB (o2 (oN [(xVar 8)] kRepr) (oN [(dCall F__law_due [(xVar 6)] [])] kRepr) kNe)) (sSeq (sRet (xC (.bl false)))
    sSkip) sSkip)
    sSkip))
def cmpF : DS := (sSeq (sIf (tOrr (tB (o2 (dCall F_format_deeds [(xVar 7)] []) (dCall F__law_text [(xVar 3)] []) kNe)) (tB (o2 (dCall F_parse_deeds [(dCall F_format_deeds [(xVar 7)] [])] []) (oN [(xVar 3)] kTuple) kNe))) (sSeq (sRet (xC (.bl false)))
    sSkip) sSkip)
    sSkip)
def askT : DS := (sSeq (sExp (mO (xVar 4) [(dCall F__law_odd_text [(xVar 2), (xVar 3)] [])] oAppend))
    sSkip)
def goT : DS := (sSeq (sFor (itN [(xC (.int 20))] kRng1) (gNm 5) askT)
    (sSeq (sFor (itSeq (xVar 4)) (gNm 6) cmpT)
    (sSeq (sFor (itSeq (xTup [(xVar 3), (oN [(xVar 3)] kTuple)])) (gNm 7) cmpF)
    sSkip)))
def tailT : DS := (sSeq (sSet 4 (xLst [(xC (.str "-")), (xC (.str "")), (xC (.str " ")), (xC (.str ";")), (xC (.str " ; ")), (xC (.str "- ; lay a s"))]))
    (sSeq (sSet 4 (o2 (xVar 4) (xLst [(xC (.str " lay a s")), (xC (.str "lay a s ")), (xC (.str "lay  a s")), (xC (.str " -")), (xC (.str "- ")), (xC (.str "lay a s  ; empty s")), (xC (.str "lay a s ;empty s"))]) kAdd))
    (sSeq (sSet 4 (o2 (xVar 4) (xLst [(xC (.str "lay a s ; lay a s ; lay a")), (xC (.str "lift a s ; lift a s ; -")), (xC (.str "lay a s ; lay a s ; empty s"))]) kAdd))
    (sSeq (sSet 4 (o2 (xVar 4) (xLst [(xC (.str "lay a s ; lay a s")), (xC (.str "lay a s ; ")), (dCall F__law_text [(xVar 3)] []), (o2 (xC (.str " ")) (dCall F__law_text [(xVar 3)] []) kAdd), (o2 (dCall F__law_text [(xVar 3)] []) (xC (.str " ")) kAdd)]) kAdd))
    goT))))
def bodyT : DS := (sSeq (sSet 2 (dCall F__law_box [(xVar 0), (xVar 1)] []))
    (sSeq (sSet 3 (dCall F__law_row [(xVar 2), (dCall F__law_world [(xVar 2), (xC (.int 6)), (xC (.int 4))] []), (o2 (xLst [(xC (.int 10)), (xC (.int 56))]) (dCall F__law_take [(xVar 2), (xC (.int 2))] []) kIx2)] []))
    tailT))
theorem G_law_eq : G_law F__law_box F__law_row F__law_world F__law_told F__law_take F__law_text F__law_odd_text F__law_due F_format_deeds F_parse_deeds = (sSeq (sFor (itN [(oN [(xC (.int 2)), (oN [(xC (.int 5)), (oN [(xVar 0)] kLen)] kMin2)] kMax2)] kRng1) (gNm 1) bodyT)
    (sSeq (sRet (xC (.bl true)))
    sSkip)) := rfl
section
variable {a b c : Int} {P : Ctl → Env → Prop} {u0 u1 u2 u3 u4 u5 u6 u7 u8 : Option S} {rows : List (List Str)}
theorem cmpT_w {z : Str} (hz : Dn.Nm 20000 z) (h : ∀ v8, P .nx [u0, u1, u2, u3, u4, u5, some (.d (.str z)), u7, v8]) : wS cmpT [u0, u1, u2, u3, u4, u5, some (.d (.str z)), u7, u8] P := by
  obtain ⟨t1, t2⟩ := told_val hz.1 hz.2
  have t3 := t1.d
  unfold cmpT
  simp
  refine told_w hz.1 hz.2 ?_
  simp
  rw [k_repr t1.ok (by omega) (by omega)]
  simp
  refine due_w hz.1 hz.2 ?_
  simp
  rw [k_repr t1.ok (by omega) (by omega)]
  simp
  exact h _
theorem refl_t {xs : List D} {k : Nat} (h : Shp k xs) (hk : k ≤ 63) : isPy (.tup xs) = true ∧ SeqAt.shaped (toPy (.tup xs)) = true ∧ (toPy (.tup xs)).eqv (toPy (.tup xs)) = true :=
  ⟨(Sh1.tup h).p, (Sh1.tup h).shaped (by omega), SeqAt.eqv_refl _ (Sh1.tup h).c⟩
theorem shp_rows (hd : ∀ zs ∈ rows, DeedS zs) : Shp 1 (rows.map tupS) := Shp.of fun x hx => by
  obtain ⟨zs, hz, rfl⟩ := List.mem_map.mp hx
  exact .tup (shp_strs fun z hz2 => ((deed_nm (hd zs hz)).1 z hz2).1)
theorem told_row {kvs : List (List Key × D)} (I : RowI rows kvs) : if textS rows = "-" then rows = [] else refT (parts (textS rows)) = none ∧ parts (textS rows) = rows.map tupS := by
  by_cases h0 : rows = []
  · subst h0
    rw [if_pos (show textS [] = "-" from rfl)]
  · rw [if_neg (text_dash I.d h0)]
    have e := parts_text I.d h0
    refine ⟨?_, e⟩
    have ef : (rows.map tupS).findIdx? (fun y => !deedB y) = none := by
      rw [List.findIdx?_eq_none_iff]
      intro y hy
      obtain ⟨zs, hz, rfl⟩ := List.mem_map.mp hy
      rw [deed_b (I.d zs hz)]
      rfl
    unfold refT
    rw [e, ef]
    dsimp only
    rw [I.r]
theorem cmpF_w {x : D} {kvs : List (List Key × D)} (I : RowI rows kvs) (hl : rows.length ≤ 56) (e : x = .tup (rows.map tupS) ∨ x = .lst (rows.map tupS)) (h : P .nx [u0, u1, u2, some (.d (.lst (rows.map tupS))), u4, u5, u6, some (.d x), u8]) :
    wS cmpF [u0, u1, u2, some (.d (.lst (rows.map tupS))), u4, u5, u6, some (.d x), u8] P := by
  have hnm := textS_nm I.d (by omega)
  have htr := told_row I
  unfold cmpF
  simp
  refine format_w I.d (by omega) e ?_
  simp
  refine text_w I.d (by omega) (.inr rfl) ?_
  simp
  refine format_w I.d (by omega) e ?_
  simp
  refine parse_w hnm.1 (by have := hnm.2; omega) ?_
  by_cases hd : textS rows = "-"
  · rw [if_pos hd] at htr ⊢
    subst htr
    simp
    simp [refl_t (k := 0) .nil (by omega)]
    exact h
  · rw [if_neg hd] at htr ⊢
    rw [htr.1, htr.2]
    simp
    simp [refl_t (shp_rows I.d) (by omega)]
    exact h
def okT (x : D) : Prop := ∃ z, x = .str z ∧ Dn.Nm 20000 z
theorem go_w {asked : List D} {kvs : List (List Key × D)} (I : RowI rows kvs) (hl : rows.length ≤ 56) (ha : ∀ y ∈ asked, okT y) (hal : asked.length ≤ 100)
    (h : ∀ a b c v4 v5 v6 v7 v8, P .nx [u0, u1, some (bx a b c), some (.d (.lst (rows.map tupS))), v4, v5, v6, v7, v8]) :
    wS goT [u0, u1, some (bx a b c), some (.d (.lst (rows.map tupS))), some (.o (.lst asked)), u5, u6, u7, u8] P := by
  unfold goT
  simp
  refine wS.forI (fun r ρ => ∃ (a b c : Int) (asked : List D) (v5 : Option S), ρ = [u0, u1, some (bx a b c), some (.d (.lst (rows.map tupS))), some (.o (.lst asked)), v5, u6, u7, u8] ∧ asked.length + r.length ≤ 200 ∧ ∀ y ∈ asked, okT y) ⟨a, b, c, asked, u5, rfl, by simp [rng]; omega, ha⟩ ?_ ?_
  · rintro ρ ⟨a, b, c, asked, v5, rfl, _, ha⟩
    simp
    refine wS.forI (fun r ρ => ∃ (v6 v8 : Option S), ρ = [u0, u1, some (bx a b c), some (.d (.lst (rows.map tupS))), some (.d (.lst asked)), v5, v6, u7, v8] ∧ ∀ y ∈ r, okT y) ⟨u6, u8, rfl, ha⟩ ?_ ?_
    · rintro ρ ⟨v6, v8, rfl, _⟩
      simp
      refine wS.forI (fun r ρ => ∃ (v7 : Option S), ρ = [u0, u1, some (bx a b c), some (.d (.lst (rows.map tupS))), some (.d (.lst asked)), v5, v6, v7, v8] ∧ ∀ y ∈ r, y = .tup (rows.map tupS) ∨ y = .lst (rows.map tupS)) ⟨u7, rfl, by simp⟩ ?_ ?_
      · rintro ρ ⟨v7, rfl, _⟩
        simp
        exact h _ _ _ _ _ _ _ _
      · rintro x r ρ ⟨v7, rfl, hx⟩
        simp
        refine cmpF_w I hl (hx x List.mem_cons_self) ?_
        simp
        exact fun y hy => hx y (List.mem_cons_of_mem _ hy)
    · rintro x r ρ ⟨v6, v8, rfl, hx⟩
      obtain ⟨z, rfl, hz⟩ := hx x List.mem_cons_self
      simp
      refine cmpT_w hz fun v8 => ?_
      simp
      exact fun y hy => hx y (List.mem_cons_of_mem _ hy)
  · rintro x r ρ ⟨a, b, c, asked, v5, rfl, hal, ha⟩
    simp at hal
    unfold askT
    simp [bx]
    refine odd_w I.d hl fun z a b c hz => ?_
    simp [bx]
    refine ⟨by rw [sizeLine_eq]; omega, a, b, c, asked ++ [.str z], ⟨⟨rfl, rfl, rfl⟩, rfl⟩, by simp; omega, fun y hy => ?_⟩
    rcases List.mem_append.mp hy with hy | hy
    · exact ha y hy
    · rw [List.mem_singleton.mp hy]
      exact ⟨z, rfl, hz⟩
def T0 : List Str := ["-", "", " ", ";", " ; ", "- ; lay a s", " lay a s", "lay a s ", "lay  a s", " -", "- ", "lay a s  ; empty s", "lay a s ;empty s"]
def T1 : List Str := ["lay a s ; lay a s ; lay a", "lift a s ; lift a s ; -", "lay a s ; lay a s ; empty s", "lay a s ; lay a s", "lay a s ; "]
theorem T_ok : (T0 ++ T1).all (fun z => PyData.strOk z && decide (z.length ≤ 100)) = true := by decide +kernel
theorem t_ok {z : Str} (h : z ∈ T0 ++ T1) : okT (.str z) := by
  have h := List.all_eq_true.mp T_ok z h
  rw [Bool.and_eq_true] at h
  have := of_decide_eq_true h.2
  exact ⟨z, rfl, h.1, by omega⟩
theorem tail_w {kvs : List (List Key × D)} (I : RowI rows kvs) (hl : rows.length ≤ 56) (h : ∀ a b c v4 v5 v6 v7 v8, P .nx [u0, u1, some (bx a b c), some (.d (.lst (rows.map tupS))), v4, v5, v6, v7, v8]) :
    wS tailT [u0, u1, some (bx a b c), some (.d (.lst (rows.map tupS))), u4, u5, u6, u7, u8] P := by
  have hnm := textS_nm I.d (by omega)
  have e1 : (Str.ofString " ").length = 1 := by decide +kernel
  unfold tailT
  simp
  refine ⟨by rw [sizeLine_eq]; omega, by rw [sizeLine_eq]; omega, ?_⟩
  refine text_w I.d (by omega) (.inr rfl) ?_
  simp
  refine text_w I.d (by omega) (.inr rfl) ?_
  simp [e1]
  refine ⟨by have := hnm.2; rw [sizeLine_eq]; omega, ?_⟩
  refine text_w I.d (by omega) (.inr rfl) ?_
  simp [e1]
  refine ⟨by have := hnm.2; rw [sizeLine_eq]; omega, by rw [sizeLine_eq]; omega, ?_⟩
  have key : ∀ l : List D, l = (T0 ++ T1).map D.str ++ [.str (textS rows), .str (" " ++ textS rows), .str (textS rows ++ " ")] → wS goT [u0, u1, some (bx a b c), some (.d (.lst (rows.map tupS))), some (.o (.lst l)), u5, u6, u7, u8] P := by
    rintro l rfl
    refine go_w I hl (fun y hy => ?_) (by simp [T0, T1]) h
    rcases List.mem_append.mp hy with hy | hy
    · obtain ⟨z, hz, rfl⟩ := List.mem_map.mp hy
      exact t_ok hz
    · have s1 : Dn.Nm 1 " " := sp1.1
      simp only [List.mem_cons, List.not_mem_nil, or_false] at hy
      rcases hy with rfl | rfl | rfl
      · exact ⟨_, rfl, hnm.mono (by omega)⟩
      · exact ⟨_, rfl, (s1.app hnm).mono (by omega)⟩
      · exact ⟨_, rfl, (hnm.app s1).mono (by omega)⟩
  exact key _ rfl
theorem ten_at {i : Int} (h : i = 0 ∨ i = 1) : ∃ n : Nat, atI [D.int 10, .int 56] i = some (.int (n : Nat)) ∧ n ≤ 56 := by
  rcases h with rfl | rfl
  · exact ⟨10, by simp, by omega⟩
  · exact ⟨56, by simp, by omega⟩
theorem body_w {ns : List Int} {k : Nat} (hk : k < 10) (h : ∀ v2 v3 v4 v5 v6 v7 v8, P .nx [some (.d (.src ns)), some (.d (.int (k : Nat))), v2, v3, v4, v5, v6, v7, v8]) :
    wS bodyT [some (.d (.src ns)), some (.d (.int (k : Nat))), u2, u3, u4, u5, u6, u7, u8] P := by
  unfold bodyT
  simp
  refine box_w hk fun a b c => ?_
  simp [bx]
  refine world_w (p := 6) (q := 4) (by omega) (by omega) fun wd a b c hw => ?_
  simp [bx]
  refine take_w (m := 2) (by omega) (by omega) fun i a b c i0 i1 => ?_
  obtain ⟨n, en, hn⟩ := ten_at (i := i) (by omega)
  simp [bx, en]
  refine row_w hw (by omega) fun rows a b c kvs I hl => ?_
  simp
  exact tail_w I (by omega) fun a b c v4 v5 v6 v7 v8 => h _ _ _ _ _ _ _
theorem law_w {ns : List Int} (hn : ns.length ≤ 63) : ∃ outs, F_law [.d (.src ns)] = some (.ok (.d (.bl true)), outs) := by
  have key : wF F_law [.d (.src ns)] (fun r _ => r = .d (.bl true)) fun _ _ => False := by
    unfold F_law
    rw [G_law_eq, wF_fn]
    refine ⟨rfl, ?_⟩
    simp
    generalize hN : (if 2 < if (ns.length : Int) < 5 then (ns.length : Int) else 5 then if (ns.length : Int) < 5 then (ns.length : Int) else 5 else 2) = N
    have hN2 : 2 ≤ N ∧ N ≤ 5 := by
      subst hN
      split <;> split at * <;> omega
    refine ⟨⟨by omega, by omega⟩, ?_⟩
    refine wS.forI (fun r ρ => ∃ v1 v2 v3 v4 v5 v6 v7 v8, ρ = [some (.d (.src ns)), v1, v2, v3, v4, v5, v6, v7, v8] ∧ ∀ x ∈ r, ∃ k : Nat, x = .int (k : Nat) ∧ k < 10) ⟨_, _, _, _, _, _, _, _, rfl, fun x hx => ?_⟩ ?_ ?_
    · obtain ⟨k, hk, rfl⟩ := rng_mem hx
      exact ⟨k, by simp, by omega⟩
    · rintro ρ ⟨v1, v2, v3, v4, v5, v6, v7, v8, rfl, _⟩
      simp
    · rintro x r ρ ⟨v1, v2, v3, v4, v5, v6, v7, v8, rfl, hr⟩
      obtain ⟨k, rfl, hk⟩ := hr x List.mem_cons_self
      simp
      refine body_w hk fun v2 v3 v4 v5 v6 v7 v8 => ?_
      simp
      exact fun x hx => hr x (List.mem_cons_of_mem _ hx)
  obtain ⟨r, o, e, rfl⟩ := key.run
  exact ⟨o, e⟩
end
end Dn.k08
end

section
set_option Elab.async false
set_option linter.all false
set_option maxRecDepth 100000
set_option maxHeartbeats 4000000
namespace Dn.k08
open PySem PySem.Spec L2 Dn
open Dn.C (K_LETTERS K_NAME_LENGTH DK_WORDS G_is_name F_is_name G_is_deed F_is_deed G_pair_of F_pair_of G_check_deeds F_check_deeds G_format_deeds F_format_deeds G_parse_deeds F_parse_deeds G__law_box F__law_box G__law_take F__law_take G__law_pick F__law_pick G__law_mixed F__law_mixed G__law_names F__law_names G__law_world F__law_world G__law_deed F__law_deed G__law_row F__law_row G__law_spoilt F__law_spoilt G__law_is_name F__law_is_name G__law_is_deed F__law_is_deed G__law_first_irregular F__law_first_irregular)
def top (i : Nat) : Stmt := PySem.Challenge.pw_asfound_k08_rows_as_texts.main.body.getD i (.Pass ⟨0, 0, 0, 0⟩)
/-- what the text finds outside its defs -/
structure Fr (w : World) (K : PySem.W.Frag) (mg : MG) : Prop where
  b_abs : mg "abs" = none
  b_all : mg "all" = none
  b_enumerate : mg "enumerate" = none
  b_int : mg "int" = none
  b_isinstance : mg "isinstance" = none
  b_len : mg "len" = none
  b_list : mg "list" = none
  b_max : mg "max" = none
  b_min : mg "min" = none
  b_range : mg "range" = none
  b_repr : mg "repr" = none
  b_str : mg "str" = none
  b_tuple : mg "tuple" = none
  c_LETTERS : ∃ v u, mg "LETTERS" = some u ∧ RelV v u ∧ ∀ F, Rep (kn K) F K_LETTERS v
  c_NAME_LENGTH : ∃ v u, mg "NAME_LENGTH" = some u ∧ RelV v u ∧ ∀ F, Rep (kn K) F K_NAME_LENGTH v
  d_WORDS : KdI K w mg "WORDS" DK_WORDS
  T : ExT K mg cxs ["at"] crel
theorem m_FoundError : ("FoundError" : Str) ∈ cxs := by decide +kernel
theorem m_NoWord : ("NoWord" : Str) ∈ cxs := by decide +kernel
theorem m_NoText : ("NoText" : Str) ∈ cxs := by decide +kernel
theorem m_NoDeed : ("NoDeed" : Str) ∈ cxs := by decide +kernel
theorem m_Irregular : ("Irregular" : Str) ∈ cxs := by decide +kernel
theorem m_Blocked : ("Blocked" : Str) ∈ cxs := by decide +kernel
section
variable {P : Program} {w : World} {K : PySem.W.Frag} {mg : MG} {base : Heap} {fA : Addr} {fd : FuncData} {k : Nat}
abbrev s_is_name : Stmt := top 10
theorem sc_is_name : FnScope ["value", "letter"] ["value"] (defScope s_is_name) := ⟨rfl, rfl, rfl, by decide +kernel, rfl, by decide +kernel, by decide +kernel⟩
theorem ok_is_name (F : FunD K "is_name" "is_name" (defArgs s_is_name) (defBody s_is_name) (defScope s_is_name) [] [] fA fd) (gl : mg "is_name" = some (.ref fA)) (R : Fr w K mg)  : Has P w K mg base (k + 1) "is_name" ["value"] 1 F_is_name :=
  has_of F gl (FunD.bindsN (ps := ["value"]) F fun _ _ _ _ _ _ us hl => match us, hl with | [_], _ => rfl) (fnD (K := kn K) (pm := [true]) (N := ["value", "letter"]) (g := G_is_name) F sc_is_name rfl (fun cdv A outer s H E W hr hG tk po => by
      have hN := sc_is_name.nd
      have hu := hr.un200
      have hu64 := hr.un64
      have hu65 := hr.un65
      exact (pss_consD (ps_ifD (PW.pt (pw_orD (pt_notD (pt_valD (pe_isi1 rfl R.b_isinstance (pe_nm 0) (.cons rfl R.b_str (by decide +kernel) (by decide) (by decide) rfl .nil)))) (pw_or1D (pt_notD (pt_chD cLe cLe pe_intD (pe_cbD cf_len rfl R.b_len b_len (pa_consD (pe_nm 0) pa_nilD)) (pe_gloE rfl R.c_NAME_LENGTH)))))) (pss_consD (ps_retD pe_blD)
    pss_nilD) pss_nilD)
    (pss_consD (ps_retD (pe_cbD (cf_all rfl) rfl R.b_all b_all (pa_consD (pe_lcD (own := [("letter", 1)]) rfl hN (pi_strD (pe_nm 0)) (show BlkOk ["value", "letter"] (defScope s_is_name) _ _ from blkOk_by (by decide +kernel)) gl_nm (fun _ _ _ _ _ => (pg_nmD 1 hN)) (fun _ _ _ _ _ => pts_nilD) (fun _ _ _ _ _ => (pe_cmpD (cIn3 hu65) (pe_nm 1) (pe_gloE rfl R.c_LETTERS) (by with_unfolding_all rfl)))) pa_nilD)))
    pss_nilD))))
abbrev s_is_deed : Stmt := top 13
theorem sc_is_deed : FnScope ["value", "name"] ["value"] (defScope s_is_deed) := ⟨rfl, rfl, rfl, by decide +kernel, rfl, by decide +kernel, by decide +kernel⟩
theorem ok_is_deed (F : FunD K "is_deed" "is_deed" (defArgs s_is_deed) (defBody s_is_deed) (defScope s_is_deed) [] [] fA fd) (gl : mg "is_deed" = some (.ref fA)) (R : Fr w K mg) (h_is_name : Has P w K mg base k "is_name" ["value"] 1 F_is_name) : Has P w K mg base (k + 1) "is_deed" ["value"] 1 F_is_deed :=
  has_of F gl (FunD.bindsN (ps := ["value"]) F fun _ _ _ _ _ _ us hl => match us, hl with | [_], _ => rfl) (fnD (K := kn K) (pm := [true]) (N := ["value", "name"]) (g := (G_is_deed F_is_name)) F sc_is_deed rfl (fun cdv A outer s H E W hr hG tk po => by
      have hN := sc_is_deed.nd
      have hu := hr.un200
      have hu64 := hr.un64
      have hu65 := hr.un65
      have d_WORDS := R.d_WORDS
      exact (pss_consD (ps_ifD (PW.pt (pw_orD (pt_notD (pt_valD (pe_isi1 rfl R.b_isinstance (pe_nm 0) (.cons rfl R.b_tuple (by decide +kernel) (by decide) (by decide) rfl .nil)))) (pw_orD (pt_cmpD cLt (pe_cbD cf_len rfl R.b_len b_len (pa_consD (pe_nm 0) pa_nilD)) pe_intD (nomark _)) (pw_or1D (pt_notD (pt_valD (pe_isi1 rfl R.b_isinstance (pe_ix2 hu65 (pe_nm 0) pe_intD) (.cons rfl R.b_str (by decide +kernel) (by decide) (by decide) rfl .nil)))))))) (pss_consD (ps_retD pe_blD)
    pss_nilD) pss_nilD)
    (pss_consD (ps_ifD (pt_cmpD (cNe hu64) (pe_kget d_WORDS rfl (pe_ix2 hu65 (pe_nm 0) pe_intD) pe_intD) (pe_cbD cf_len rfl R.b_len b_len (pa_consD (pe_nm 0) pa_nilD)) (nomark _)) (pss_consD (ps_retD pe_blD)
    pss_nilD) pss_nilD)
    (pss_consD (ps_retD (pe_cbD (cf_all rfl) rfl R.b_all b_all (pa_consD (pe_lcD (own := [("name", 1)]) rfl hN (pi_seqD (pe_slD (pe_nm 0) (po_soD pe_intD) po_noD)) (show BlkOk ["value", "name"] (defScope s_is_deed) _ _ from blkOk_by (by decide +kernel)) gl_nm (fun _ _ _ _ _ => (pg_nmD 1 hN)) (fun _ _ _ _ _ => pts_nilD) (fun _ _ _ _ _ => (pe_us h_is_name hr hG takes_no rfl (pa_consD (pe_nm 1) pa_nilD)))) pa_nilD)))
    pss_nilD)))))
abbrev s_pair_of : Stmt := top 14
theorem sc_pair_of : FnScope ["deed"] ["deed"] (defScope s_pair_of) := ⟨rfl, rfl, rfl, by decide +kernel, rfl, by decide +kernel, by decide +kernel⟩
theorem ok_pair_of (F : FunD K "pair_of" "pair_of" (defArgs s_pair_of) (defBody s_pair_of) (defScope s_pair_of) [] [] fA fd) (gl : mg "pair_of" = some (.ref fA)) (R : Fr w K mg)  : Has P w K mg base (k + 1) "pair_of" ["deed"] 1 F_pair_of :=
  has_of F gl (FunD.bindsN (ps := ["deed"]) F fun _ _ _ _ _ _ us hl => match us, hl with | [_], _ => rfl) (fnD (K := kn K) (pm := [true]) (N := ["deed"]) (g := G_pair_of) F sc_pair_of rfl (fun cdv A outer s H E W hr hG tk po => by
      have hN := sc_pair_of.nd
      have hu := hr.un200
      have hu64 := hr.un64
      have hu65 := hr.un65
      exact (pss_consD (ps_retD (pe_ifD (pt_cmpD (cIn3 hu65) (pe_ix2 hu65 (pe_nm 0) pe_intD) (pe_tupD (pa_consD pe_strD (pa_consD pe_strD pa_nilD))) (by with_unfolding_all rfl)) (pe_slD (pe_nm 0) (po_soD pe_intD) po_noD) pe_nonD))
    pss_nilD)))
abbrev s_check_deeds : Stmt := top 15
theorem sc_check_deeds : FnScope ["value", "at", "deed", "last", "pair"] ["value"] (defScope s_check_deeds) := ⟨rfl, rfl, rfl, by decide +kernel, rfl, by decide +kernel, by decide +kernel⟩
theorem ok_check_deeds (F : FunD K "check_deeds" "check_deeds" (defArgs s_check_deeds) (defBody s_check_deeds) (defScope s_check_deeds) [] [] fA fd) (gl : mg "check_deeds" = some (.ref fA)) (R : Fr w K mg) (h_pair_of : Has P w K mg base k "pair_of" ["deed"] 1 F_pair_of) (h_is_deed : Has P w K mg base k "is_deed" ["value"] 1 F_is_deed) (e_NoDeed : ExC P w K mg base 1 "NoDeed" ["at"]) (e_Irregular : ExC P w K mg base 1 "Irregular" ["at"]) (hk2 : 2 ≤ k) : Has P w K mg base (k + 1) "check_deeds" ["value"] 1 F_check_deeds :=
  has_of F gl (FunD.bindsN (ps := ["value"]) F fun _ _ _ _ _ _ us hl => match us, hl with | [_], _ => rfl) (fnD (K := kn K) (pm := [true]) (N := ["value", "at", "deed", "last", "pair"]) (g := (G_check_deeds F_pair_of F_is_deed)) F sc_check_deeds rfl (fun cdv A outer s H E W hr hG tk po => by
      have hN := sc_check_deeds.nd
      have hu := hr.un200
      have hu64 := hr.un64
      have hu65 := hr.un65
      have hr2 : Room 2 _ := hr.mono (by omega)
      exact (pss_consD (ps_ifD (pt_notD (pt_valD (pe_isiT rfl R.b_isinstance (pe_nm 0) (.cons rfl R.b_tuple (by decide +kernel) (by decide) (by decide) rfl (.cons rfl R.b_list (by decide +kernel) (by decide) (by decide) rfl .nil)) (by decide)))) (pss_consD (ps_raise1 e_NoDeed rfl tk hr2 rfl (pa_consD (pe_negD pe_intD) pa_nilD))
    pss_nilD) pss_nilD)
    (pss_consD (ps_forD po rfl (pi_enumAD rfl R.b_enumerate (pe_nm 0)) (pg_tpD rfl (pgs_consD (pg_nmD 1 hN) (pgs_consD (pg_nmD 2 hN) pgs_nilD))) (pss_consD (ps_ifD (pt_notD (pt_valD (pe_us h_is_deed hr hG tk rfl (pa_consD (pe_nm 2) pa_nilD)))) (pss_consD (ps_raise1 e_NoDeed rfl tk hr2 rfl (pa_consD (pe_nm 1) pa_nilD))
    pss_nilD) pss_nilD)
    pss_nilD))
    (pss_consD (ps_setD (i := 3) rfl hN rfl (by first | exact .inl rfl | exact .inr rfl) pe_dT)
    (pss_consD (ps_forD po rfl (pi_enumAD rfl R.b_enumerate (pe_nm 0)) (pg_tpD rfl (pgs_consD (pg_nmD 1 hN) (pgs_consD (pg_nmD 2 hN) pgs_nilD))) (pss_consD (ps_setD (i := 4) rfl hN rfl (by first | exact .inl rfl | exact .inr rfl) (pe_us h_pair_of hr hG tk rfl (pa_consD (pe_nm 2) pa_nilD)))
    (pss_consD (ps_ifD (pt_cmpD cIsN (pe_nm 4) pe_nonD (nomark _)) (pss_consD (ps_ifD (pt_cmpD (cEq hu64) (pe_get1 hu65 (pe_nm 3) (pe_nm 4)) (pe_ix2 hu65 (pe_nm 2) pe_intD) (nomark _)) (pss_consD (ps_raise1 e_Irregular rfl tk hr2 rfl (pa_consD (pe_nm 1) pa_nilD))
    pss_nilD) pss_nilD)
    (pss_consD (ps_st2 hu65 (pe_ix2 hu65 (pe_nm 2) pe_intD) (pe_nm 3) (pe_nm 4))
    pss_nilD)) pss_nilD)
    pss_nilD)))
    (pss_consD (ps_retD pe_blD)
    pss_nilD)))))))
abbrev s_format_deeds : Stmt := top 16
theorem sc_format_deeds : FnScope ["deeds", "deed"] ["deeds"] (defScope s_format_deeds) := ⟨rfl, rfl, rfl, by decide +kernel, rfl, by decide +kernel, by decide +kernel⟩
theorem ok_format_deeds (F : FunD K "format_deeds" "format_deeds" (defArgs s_format_deeds) (defBody s_format_deeds) (defScope s_format_deeds) [] [] fA fd) (gl : mg "format_deeds" = some (.ref fA)) (R : Fr w K mg)  : Has P w K mg base (k + 1) "format_deeds" ["deeds"] 1 F_format_deeds :=
  has_of F gl (FunD.bindsN (ps := ["deeds"]) F fun _ _ _ _ _ _ us hl => match us, hl with | [_], _ => rfl) (fnD (K := kn K) (pm := [true]) (N := ["deeds", "deed"]) (g := G_format_deeds) F sc_format_deeds rfl (fun cdv A outer s H E W hr hG tk po => by
      have hN := sc_format_deeds.nd
      have hu := hr.un200
      have hu64 := hr.un64
      have hu65 := hr.un65
      exact (pss_consD (ps_retD (pe_ifD (pt_cmpD cGt (pe_cbD cf_len rfl R.b_len b_len (pa_consD (pe_nm 0) pa_nilD)) pe_intD (nomark _)) (pe_mD (mf_joinS rfl) pe_strD (pa_consD (pe_lcD (own := [("deed", 1)]) rfl hN (pi_seqD (pe_nm 0)) (show BlkOk ["deeds", "deed"] (defScope s_format_deeds) _ _ from blkOk_by (by decide +kernel)) gl_nm (fun _ _ _ _ _ => (pg_nmD 1 hN)) (fun _ _ _ _ _ => pts_nilD) (fun _ _ _ _ _ => (pe_mD (mf_joinS rfl) pe_strD (pa_consD (pe_nm 1) pa_nilD)))) pa_nilD)) pe_strD))
    pss_nilD)))
abbrev s_parse_deeds : Stmt := top 17
theorem sc_parse_deeds : FnScope ["text", "deeds", "at", "part", "deed"] ["text"] (defScope s_parse_deeds) := ⟨rfl, rfl, rfl, by decide +kernel, rfl, by decide +kernel, by decide +kernel⟩
theorem ok_parse_deeds (F : FunD K "parse_deeds" "parse_deeds" (defArgs s_parse_deeds) (defBody s_parse_deeds) (defScope s_parse_deeds) [] [] fA fd) (gl : mg "parse_deeds" = some (.ref fA)) (R : Fr w K mg) (h_check_deeds : Has P w K mg base k "check_deeds" ["value"] 1 F_check_deeds) (h_is_deed : Has P w K mg base k "is_deed" ["value"] 1 F_is_deed) (e_NoText : ExC P w K mg base 1 "NoText" ["at"]) (hk2 : 2 ≤ k) : Has P w K mg base (k + 1) "parse_deeds" ["text"] 1 F_parse_deeds :=
  has_of F gl (FunD.bindsN (ps := ["text"]) F fun _ _ _ _ _ _ us hl => match us, hl with | [_], _ => rfl) (fnD (K := kn K) (pm := [true]) (N := ["text", "deeds", "at", "part", "deed"]) (g := (G_parse_deeds F_check_deeds F_is_deed)) F sc_parse_deeds rfl (fun cdv A outer s H E W hr hG tk po => by
      have hN := sc_parse_deeds.nd
      have hu := hr.un200
      have hu64 := hr.un64
      have hu65 := hr.un65
      have hr2 : Room 2 _ := hr.mono (by omega)
      exact (pss_consD (ps_ifD (pt_cmpD (cEq hu64) (pe_nm 0) pe_strD (nomark _)) (pss_consD (ps_retD (pe_tupD pa_nilD))
    pss_nilD) pss_nilD)
    (pss_consD (ps_setD (i := 1) rfl hN rfl (by first | exact .inl rfl | exact .inr rfl) (pe_lstD pa_nilD))
    (pss_consD (ps_forD po rfl (pi_enumAD rfl R.b_enumerate (pe_mD mf_split (pe_nm 0) (pa_consD pe_strD pa_nilD))) (pg_tpD rfl (pgs_consD (pg_nmD 2 hN) (pgs_consD (pg_nmD 3 hN) pgs_nilD))) (pss_consD (ps_setD (i := 4) rfl hN rfl (by first | exact .inl rfl | exact .inr rfl) (pe_ctD cf_tuple rfl R.b_tuple b_tuple (pa_consD (pe_mD mf_split (pe_nm 3) (pa_consD pe_strD pa_nilD)) pa_nilD)))
    (pss_consD (ps_ifD (pt_notD (pt_valD (pe_us h_is_deed hr hG tk rfl (pa_consD (pe_nm 4) pa_nilD)))) (pss_consD (ps_raise1 e_NoText rfl tk hr2 rfl (pa_consD (pe_nm 2) pa_nilD))
    pss_nilD) pss_nilD)
    (pss_consD (ps_expD (pe_oD ow_append (pe_nm 1) (pa_consD (pe_nm 4) pa_nilD)))
    pss_nilD))))
    (pss_consD (ps_expD (pe_us h_check_deeds hr hG tk rfl (pa_consD (pe_nm 1) pa_nilD)))
    (pss_consD (ps_retD (pe_ctD cf_tuple rfl R.b_tuple b_tuple (pa_consD (pe_nm 1) pa_nilD)))
    pss_nilD)))))))
abbrev s__law_box : Stmt := top 19
theorem sc__law_box : FnScope ["_law_script", "_law_k", "_law_cell", "_law_seed"] ["_law_script", "_law_k"] (defScope s__law_box) := ⟨rfl, rfl, rfl, by decide +kernel, rfl, by decide +kernel, by decide +kernel⟩
theorem ok__law_box (F : FunD K "_law_box" "_law_box" (defArgs s__law_box) (defBody s__law_box) (defScope s__law_box) [] [] fA fd) (gl : mg "_law_box" = some (.ref fA)) (R : Fr w K mg)  : Has P w K mg base (k + 1) "_law_box" ["_law_script", "_law_k"] 2 F__law_box :=
  has_of F gl (FunD.bindsN (ps := ["_law_script", "_law_k"]) F fun _ _ _ _ _ _ us hl => match us, hl with | [_, _], _ => rfl) (fnD (K := kn K) (pm := [true, true]) (N := ["_law_script", "_law_k", "_law_cell", "_law_seed"]) (g := G__law_box) F sc__law_box rfl (fun cdv A outer s H E W hr hG tk po => by
      have hN := sc__law_box.nd
      have hu := hr.un200
      have hu64 := hr.un64
      have hu65 := hr.un65
      exact (pss_consD (ps_setD (i := 2) rfl hN rfl (by first | exact .inl rfl | exact .inr rfl) (pe_add4 (pe_mulD pe_intD (pe_nm 1)) pe_intD))
    (pss_consD (ps_ifD (pt_cmpD cLt (pe_nm 1) (pe_cbD cf_len rfl R.b_len b_len (pa_consD (pe_nm 0) pa_nilD)) (nomark _)) (pss_consD (ps_setD (i := 2) rfl hN rfl (by first | exact .inl rfl | exact .inr rfl) (pe_cbD cf_abs rfl R.b_abs b_abs (pa_consD (pe_ix2 hu65 (pe_nm 0) (pe_nm 1)) pa_nilD)))
    pss_nilD) (pss_consD (ps_ifD (pt_cmpD cGt (pe_cbD cf_len rfl R.b_len b_len (pa_consD (pe_nm 0) pa_nilD)) pe_intD (nomark _)) (pss_consD (ps_setD (i := 2) rfl hN rfl (by first | exact .inl rfl | exact .inr rfl) (pe_add4 (pe_nm 2) (pe_mulD (pe_modD (pe_cbD cf_abs rfl R.b_abs b_abs (pa_consD (pe_ix2 hu65 (pe_nm 0) (pe_modD (pe_nm 1) (pe_cbD cf_len rfl R.b_len b_len (pa_consD (pe_nm 0) pa_nilD)))) pa_nilD)) pe_intD) pe_intD)))
    pss_nilD) pss_nilD)
    pss_nilD))
    (pss_consD (ps_setD (i := 3) rfl hN rfl (by first | exact .inl rfl | exact .inr rfl) (pe_add4 (pe_modD (pe_add4 (pe_mulD (pe_modD (pe_nm 2) pe_intD) pe_intD) (pe_mulD pe_intD (pe_nm 1))) pe_intD) pe_intD))
    (pss_consD (ps_retD (pe_lstD (pa_consD (pe_ix2 hu65 (pe_lstD (pa_consD pe_intD (pa_consD (pe_nm 2) pa_nilD))) (pe_ctD cf_int rfl R.b_int b_int (pa_consD (pe_cmpD cGe (pe_nm 2) (pe_powD pe_intD pe_intD) (nomark _)) pa_nilD))) (pa_consD (pe_nm 3) (pa_consD pe_intD pa_nilD)))))
    pss_nilD))))))
abbrev s__law_take : Stmt := top 20
theorem sc__law_take : FnScope ["_law_box_here", "_law_many", "_law_one", "_law_digit"] ["_law_box_here", "_law_many"] (defScope s__law_take) := ⟨rfl, rfl, rfl, by decide +kernel, rfl, by decide +kernel, by decide +kernel⟩
theorem ok__law_take (F : FunD K "_law_take" "_law_take" (defArgs s__law_take) (defBody s__law_take) (defScope s__law_take) [] [] fA fd) (gl : mg "_law_take" = some (.ref fA)) (R : Fr w K mg)  : Has P w K mg base (k + 1) "_law_take" ["_law_box_here", "_law_many"] 2 F__law_take :=
  has_of F gl (FunD.bindsN (ps := ["_law_box_here", "_law_many"]) F fun _ _ _ _ _ _ us hl => match us, hl with | [_, _], _ => rfl) (fnD (K := kn K) (pm := [true, true]) (N := ["_law_box_here", "_law_many", "_law_one", "_law_digit"]) (g := G__law_take) F sc__law_take rfl (fun cdv A outer s H E W hr hG tk po => by
      have hN := sc__law_take.nd
      have hu := hr.un200
      have hu64 := hr.un64
      have hu65 := hr.un65
      exact (pss_consD (ps_ifD (pt_cmpD cGt (pe_ix2 hu65 (pe_nm 0) pe_intD) pe_intD (nomark _)) (pss_consD (ps_setD (i := 3) rfl hN rfl (by first | exact .inl rfl | exact .inr rfl) (pe_modD (pe_ix2 hu65 (pe_nm 0) pe_intD) (pe_nm 1)))
    (pss_consD (ps_st2 hu65 (pe_divD (pe_ix2 hu65 (pe_nm 0) pe_intD) (pe_nm 1)) (pe_nm 0) pe_intD)
    (pss_consD (ps_retD (pe_nm 3))
    pss_nilD))) pss_nilD)
    (pss_consD (ps_st2 hu65 (pe_add4 (pe_ix2 hu65 (pe_nm 0) pe_intD) pe_intD) (pe_nm 0) pe_intD)
    (pss_consD (ps_setD (i := 2) rfl hN rfl (by first | exact .inl rfl | exact .inr rfl) (pe_modD (pe_mulD (pe_add4 (pe_ix2 hu65 (pe_nm 0) pe_intD) (pe_mulD pe_intD (pe_ix2 hu65 (pe_nm 0) pe_intD))) pe_intD) pe_intD))
    (pss_consD (ps_st2 hu65 (pe_add4 (pe_modD (pe_add4 (pe_mulD (pe_nm 2) pe_intD) pe_intD) pe_intD) pe_intD) (pe_nm 0) pe_intD)
    (pss_consD (ps_retD (pe_modD (pe_divD (pe_add4 (pe_mulD (pe_nm 2) pe_intD) (pe_ix2 hu65 (pe_nm 0) pe_intD)) pe_intD) (pe_nm 1)))
    pss_nilD)))))))
abbrev s__law_pick : Stmt := top 21
theorem sc__law_pick : FnScope ["_law_box_here", "_law_items"] ["_law_box_here", "_law_items"] (defScope s__law_pick) := ⟨rfl, rfl, rfl, by decide +kernel, rfl, by decide +kernel, by decide +kernel⟩
theorem ok__law_pick (F : FunD K "_law_pick" "_law_pick" (defArgs s__law_pick) (defBody s__law_pick) (defScope s__law_pick) [] [] fA fd) (gl : mg "_law_pick" = some (.ref fA)) (R : Fr w K mg) (h__law_take : Has P w K mg base k "_law_take" ["_law_box_here", "_law_many"] 2 F__law_take) : Has P w K mg base (k + 1) "_law_pick" ["_law_box_here", "_law_items"] 2 F__law_pick :=
  has_of F gl (FunD.bindsN (ps := ["_law_box_here", "_law_items"]) F fun _ _ _ _ _ _ us hl => match us, hl with | [_, _], _ => rfl) (fnD (K := kn K) (pm := [true, true]) (N := ["_law_box_here", "_law_items"]) (g := (G__law_pick F__law_take)) F sc__law_pick rfl (fun cdv A outer s H E W hr hG tk po => by
      have hN := sc__law_pick.nd
      have hu := hr.un200
      have hu64 := hr.un64
      have hu65 := hr.un65
      exact (pss_consD (ps_retD (pe_ix2 hu65 (pe_nm 1) (pe_us h__law_take hr hG tk rfl (pa_consD (pe_nm 0) (pa_consD (pe_cbD cf_len rfl R.b_len b_len (pa_consD (pe_nm 1) pa_nilD)) pa_nilD)))))
    pss_nilD)))
abbrev s__law_mixed : Stmt := top 22
theorem sc__law_mixed : FnScope ["_law_box_here", "_law_items", "_law_left", "_law_found", "_law_turn"] ["_law_box_here", "_law_items"] (defScope s__law_mixed) := ⟨rfl, rfl, rfl, by decide +kernel, rfl, by decide +kernel, by decide +kernel⟩
theorem ok__law_mixed (F : FunD K "_law_mixed" "_law_mixed" (defArgs s__law_mixed) (defBody s__law_mixed) (defScope s__law_mixed) [] [] fA fd) (gl : mg "_law_mixed" = some (.ref fA)) (R : Fr w K mg) (h__law_take : Has P w K mg base k "_law_take" ["_law_box_here", "_law_many"] 2 F__law_take) : Has P w K mg base (k + 1) "_law_mixed" ["_law_box_here", "_law_items"] 2 F__law_mixed :=
  has_of F gl (FunD.bindsN (ps := ["_law_box_here", "_law_items"]) F fun _ _ _ _ _ _ us hl => match us, hl with | [_, _], _ => rfl) (fnD (K := kn K) (pm := [true, true]) (N := ["_law_box_here", "_law_items", "_law_left", "_law_found", "_law_turn"]) (g := (G__law_mixed F__law_take)) F sc__law_mixed rfl (fun cdv A outer s H E W hr hG tk po => by
      have hN := sc__law_mixed.nd
      have hu := hr.un200
      have hu64 := hr.un64
      have hu65 := hr.un65
      exact (pss_consD (ps_par2D (i := 2) (j := 3) (all2 rfl rfl) rfl hN rfl rfl (by decide) rfl rfl (pe_ctD (cf_listS rfl) rfl R.b_list b_list (pa_consD (pe_nm 1) pa_nilD)) (pe_lstD pa_nilD) (by rfl))
    (pss_consD (ps_forD po rfl (pi_rng1D rfl R.b_range (pe_cbD cf_len rfl R.b_len b_len (pa_consD (pe_nm 2) pa_nilD))) (pg_nmD 4 hN) (pss_consD (ps_expD (pe_oD ow_append (pe_nm 3) (pa_consD (pe_oD ow_pop (pe_nm 2) (pa_consD (pe_us h__law_take hr hG tk rfl (pa_consD (pe_nm 0) (pa_consD (pe_cbD cf_len rfl R.b_len b_len (pa_consD (pe_nm 2) pa_nilD)) pa_nilD))) pa_nilD)) pa_nilD)))
    pss_nilD))
    (pss_consD (ps_retD (pe_nm 3))
    pss_nilD)))))
abbrev s__law_names : Stmt := top 23
theorem sc__law_names : FnScope ["_law_box_here", "_law_many", "_law_letters", "_law_form", "_law_stem", "_law_at", "_law_first", "_law_found", "_law_k", "_law_words", "_law_letter", "_law_turn"] ["_law_box_here", "_law_many"] (defScope s__law_names) := ⟨rfl, rfl, rfl, by decide +kernel, rfl, by decide +kernel, by decide +kernel⟩
theorem ok__law_names (F : FunD K "_law_names" "_law_names" (defArgs s__law_names) (defBody s__law_names) (defScope s__law_names) [] [] fA fd) (gl : mg "_law_names" = some (.ref fA)) (R : Fr w K mg) (h__law_mixed : Has P w K mg base k "_law_mixed" ["_law_box_here", "_law_items"] 2 F__law_mixed) (h__law_take : Has P w K mg base k "_law_take" ["_law_box_here", "_law_many"] 2 F__law_take) : Has P w K mg base (k + 1) "_law_names" ["_law_box_here", "_law_many"] 2 F__law_names :=
  has_of F gl (FunD.bindsN (ps := ["_law_box_here", "_law_many"]) F fun _ _ _ _ _ _ us hl => match us, hl with | [_, _], _ => rfl) (fnD (K := kn K) (pm := [true, true]) (N := ["_law_box_here", "_law_many", "_law_letters", "_law_form", "_law_stem", "_law_at", "_law_first", "_law_found", "_law_k", "_law_words", "_law_letter", "_law_turn"]) (g := (G__law_names F__law_mixed F__law_take)) F sc__law_names rfl (fun cdv A outer s H E W hr hG tk po => by
      have hN := sc__law_names.nd
      have hu := hr.un200
      have hu64 := hr.un64
      have hu65 := hr.un65
      exact (pss_consD (ps_asgD (pe_tupD (pa_consD pe_strD (pa_consD (pe_us h__law_take hr hG tk rfl (pa_consD (pe_nm 0) (pa_consD pe_intD pa_nilD))) pa_nilD))) (pg_tpD rfl (pgs_consD (pg_nmD 2 hN) (pgs_consD (pg_nmD 3 hN) pgs_nilD))))
    (pss_consD (ps_ifD (pt_cmpD (cEq hu64) (pe_nm 3) pe_intD (nomark _)) (pss_consD (ps_setD (i := 9) rfl hN rfl (by first | exact .inl rfl | exact .inr rfl) (pe_mD mf_split pe_strD (pa_consD pe_strD pa_nilD)))
    (pss_consD (ps_setD (i := 9) rfl hN rfl (by first | exact .inl rfl | exact .inr rfl) (pe_add4 (pe_nm 9) (pe_mD mf_split pe_strD (pa_consD pe_strD pa_nilD))))
    (pss_consD (ps_setD (i := 6) rfl hN rfl (by first | exact .inl rfl | exact .inr rfl) (pe_us h__law_take hr hG tk rfl (pa_consD (pe_nm 0) (pa_consD pe_intD pa_nilD))))
    (pss_consD (ps_retD (pe_us h__law_mixed hr hG tk rfl (pa_consD (pe_nm 0) (pa_consD (pe_slD (pe_add4 (pe_nm 9) (pe_nm 9)) (po_soD (pe_nm 6)) (po_soD (pe_add4 (pe_nm 6) (pe_nm 1)))) pa_nilD))))
    pss_nilD)))) pss_nilD)
    (pss_consD (ps_setD (i := 4) rfl hN rfl (by first | exact .inl rfl | exact .inr rfl) (pe_mD (mf_joinS rfl) pe_strD (pa_consD (pe_lcD (own := [("_law_turn", 11)]) rfl hN (pi_rng1D rfl R.b_range (pe_us h__law_take hr hG tk rfl (pa_consD (pe_nm 0) (pa_consD pe_intD pa_nilD)))) (show BlkOk ["_law_box_here", "_law_many", "_law_letters", "_law_form", "_law_stem", "_law_at", "_law_first", "_law_found", "_law_k", "_law_words", "_law_letter", "_law_turn"] (defScope s__law_names) _ _ from blkOk_by (by decide +kernel)) gl_nm (fun _ _ _ _ _ => (pg_nmD 11 hN)) (fun _ _ _ _ _ => pts_nilD) (fun _ _ _ _ _ => (pe_ix2 hu65 (pe_nm 2) (pe_us h__law_take hr hG takes_no rfl (pa_consD (pe_nm 0) (pa_consD pe_intD pa_nilD)))))) pa_nilD)))
    (pss_consD (ps_ifD (PW.pt (pw_andD (pt_cmpD (cEq hu64) (pe_nm 3) pe_intD (nomark _)) (pw_and1D (pt_cmpD cLt (pe_nm 1) pe_intD (nomark _))))) (pss_consD (ps_retD (pe_us h__law_mixed hr hG tk rfl (pa_consD (pe_nm 0) (pa_consD (pe_lcD (own := [("_law_k", 8)]) rfl hN (pi_rng1D rfl R.b_range (pe_nm 1)) (show BlkOk ["_law_box_here", "_law_many", "_law_letters", "_law_form", "_law_stem", "_law_at", "_law_first", "_law_found", "_law_k", "_law_words", "_law_letter", "_law_turn"] (defScope s__law_names) _ _ from blkOk_by (by decide +kernel)) gl_nm (fun _ _ _ _ _ => (pg_nmD 8 hN)) (fun _ _ _ _ _ => pts_nilD) (fun _ _ _ _ _ => (pe_slD (pe_add4 (pe_slD (pe_nm 4) po_noD (po_soD pe_intD)) pe_strD) po_noD (po_soD (pe_add4 (pe_nm 8) pe_intD))))) pa_nilD))))
    pss_nilD) pss_nilD)
    (pss_consD (ps_asgD (pe_tupD (pa_consD (pe_us h__law_take hr hG tk rfl (pa_consD (pe_nm 0) (pa_consD (pe_add4 (pe_cbD cf_len rfl R.b_len b_len (pa_consD (pe_nm 4) pa_nilD)) pe_intD) pa_nilD))) (pa_consD (pe_us h__law_take hr hG tk rfl (pa_consD (pe_nm 0) (pa_consD pe_intD pa_nilD))) pa_nilD))) (pg_tpD rfl (pgs_consD (pg_nmD 5 hN) (pgs_consD (pg_nmD 6 hN) pgs_nilD))))
    (pss_consD (ps_ifD (pt_cmpD (cEq hu64) (pe_nm 3) pe_intD (nomark _)) (pss_consD (ps_retD (pe_us h__law_mixed hr hG tk rfl (pa_consD (pe_nm 0) (pa_consD (pe_lcD (own := [("_law_k", 8)]) rfl hN (pi_rng1D rfl R.b_range (pe_nm 1)) (show BlkOk ["_law_box_here", "_law_many", "_law_letters", "_law_form", "_law_stem", "_law_at", "_law_first", "_law_found", "_law_k", "_law_words", "_law_letter", "_law_turn"] (defScope s__law_names) _ _ from blkOk_by (by decide +kernel)) gl_nm (fun _ _ _ _ _ => (pg_nmD 8 hN)) (fun _ _ _ _ _ => pts_nilD) (fun _ _ _ _ _ => (pe_add4 (pe_slD (pe_add4 (pe_nm 4) pe_strD) po_noD (po_soD pe_intD)) (pe_ix2 hu65 (pe_nm 2) (pe_modD (pe_add4 (pe_nm 6) (pe_mulD pe_intD (pe_nm 8))) pe_intD))))) pa_nilD))))
    pss_nilD) pss_nilD)
    (pss_consD (ps_setD (i := 7) rfl hN rfl (by first | exact .inl rfl | exact .inr rfl) (pe_lstD pa_nilD))
    (pss_consD (ps_forD po rfl (pi_rng1D rfl R.b_range (pe_nm 1)) (pg_nmD 8 hN) (pss_consD (ps_setD (i := 10) rfl hN rfl (by first | exact .inl rfl | exact .inr rfl) (pe_ix2 hu65 (pe_nm 2) (pe_modD (pe_add4 (pe_nm 6) (pe_mulD pe_intD (pe_nm 8))) pe_intD)))
    (pss_consD (ps_expD (pe_oD ow_append (pe_nm 7) (pa_consD (pe_add4 (pe_add4 (pe_add4 (pe_slD (pe_nm 4) po_noD (po_soD (pe_nm 5))) (pe_nm 10)) (pe_slD (pe_nm 4) (po_soD (pe_nm 5)) po_noD)) (pe_mulD (pe_nm 10) (pe_modD (pe_nm 8) pe_intD))) pa_nilD)))
    pss_nilD)))
    (pss_consD (ps_retD (pe_us h__law_mixed hr hG tk rfl (pa_consD (pe_nm 0) (pa_consD (pe_nm 7) pa_nilD))))
    pss_nilD)))))))))))
abbrev s__law_world : Stmt := top 24
theorem sc__law_world : FnScope ["_law_box_here", "_law_most_hands", "_law_most_slots", "_law_some"] ["_law_box_here", "_law_most_hands", "_law_most_slots"] (defScope s__law_world) := ⟨rfl, rfl, rfl, by decide +kernel, rfl, by decide +kernel, by decide +kernel⟩
theorem ok__law_world (F : FunD K "_law_world" "_law_world" (defArgs s__law_world) (defBody s__law_world) (defScope s__law_world) [] [] fA fd) (gl : mg "_law_world" = some (.ref fA)) (R : Fr w K mg) (h__law_names : Has P w K mg base k "_law_names" ["_law_box_here", "_law_many"] 2 F__law_names) (h__law_take : Has P w K mg base k "_law_take" ["_law_box_here", "_law_many"] 2 F__law_take) : Has P w K mg base (k + 1) "_law_world" ["_law_box_here", "_law_most_hands", "_law_most_slots"] 3 F__law_world :=
  has_of F gl (FunD.bindsN (ps := ["_law_box_here", "_law_most_hands", "_law_most_slots"]) F fun _ _ _ _ _ _ us hl => match us, hl with | [_, _, _], _ => rfl) (fnD (K := kn K) (pm := [true, true, true]) (N := ["_law_box_here", "_law_most_hands", "_law_most_slots", "_law_some"]) (g := (G__law_world F__law_names F__law_take)) F sc__law_world rfl (fun cdv A outer s H E W hr hG tk po => by
      have hN := sc__law_world.nd
      have hu := hr.un200
      have hu64 := hr.un64
      have hu65 := hr.un65
      exact (pss_consD (ps_setD (i := 3) rfl hN rfl (by first | exact .inl rfl | exact .inr rfl) (pe_us h__law_names hr hG tk rfl (pa_consD (pe_nm 0) (pa_consD (pe_add4 pe_intD (pe_us h__law_take hr hG tk rfl (pa_consD (pe_nm 0) (pa_consD (pe_nm 1) pa_nilD)))) pa_nilD))))
    (pss_consD (ps_ifD (pt_cmpD (cEq hu64) (pe_us h__law_take hr hG tk rfl (pa_consD (pe_nm 0) (pa_consD pe_intD pa_nilD))) pe_intD (nomark _)) (pss_consD (ps_retD (pe_tupD (pa_consD (pe_nm 3) (pa_consD (pe_slD (pe_nm 3) po_noD (po_soD (pe_add4 pe_intD (pe_us h__law_take hr hG tk rfl (pa_consD (pe_nm 0) (pa_consD (pe_cbD (cf_min2 rfl) rfl R.b_min b_min (pa_consD (pe_nm 2) (pa_consD (pe_cbD cf_len rfl R.b_len b_len (pa_consD (pe_nm 3) pa_nilD)) pa_nilD))) pa_nilD)))))) pa_nilD))))
    pss_nilD) pss_nilD)
    (pss_consD (ps_retD (pe_tupD (pa_consD (pe_nm 3) (pa_consD (pe_us h__law_names hr hG tk rfl (pa_consD (pe_nm 0) (pa_consD (pe_add4 pe_intD (pe_us h__law_take hr hG tk rfl (pa_consD (pe_nm 0) (pa_consD (pe_nm 2) pa_nilD)))) pa_nilD))) pa_nilD))))
    pss_nilD)))))
abbrev s__law_deed : Stmt := top 25
theorem sc__law_deed : FnScope ["_law_box_here", "_law_world_here", "_law_states", "_law_hands", "_law_spots", "_law_hand", "_law_spot", "_law_form", "_law_state"] ["_law_box_here", "_law_world_here", "_law_states"] (defScope s__law_deed) := ⟨rfl, rfl, rfl, by decide +kernel, rfl, by decide +kernel, by decide +kernel⟩
theorem ok__law_deed (F : FunD K "_law_deed" "_law_deed" (defArgs s__law_deed) (defBody s__law_deed) (defScope s__law_deed) [] [] fA fd) (gl : mg "_law_deed" = some (.ref fA)) (R : Fr w K mg) (h__law_pick : Has P w K mg base k "_law_pick" ["_law_box_here", "_law_items"] 2 F__law_pick) (h__law_take : Has P w K mg base k "_law_take" ["_law_box_here", "_law_many"] 2 F__law_take) : Has P w K mg base (k + 1) "_law_deed" ["_law_box_here", "_law_world_here", "_law_states"] 3 F__law_deed :=
  has_of F gl (FunD.bindsN (ps := ["_law_box_here", "_law_world_here", "_law_states"]) F fun _ _ _ _ _ _ us hl => match us, hl with | [_, _, _], _ => rfl) (fnD (K := kn K) (pm := [true, true, true]) (N := ["_law_box_here", "_law_world_here", "_law_states", "_law_hands", "_law_spots", "_law_hand", "_law_spot", "_law_form", "_law_state"]) (g := (G__law_deed F__law_pick F__law_take)) F sc__law_deed rfl (fun cdv A outer s H E W hr hG tk po => by
      have hN := sc__law_deed.nd
      have hu := hr.un200
      have hu64 := hr.un64
      have hu65 := hr.un65
      exact (pss_consD (ps_asgD (pe_nm 1) (pg_tpD rfl (pgs_consD (pg_nmD 3 hN) (pgs_consD (pg_nmD 4 hN) pgs_nilD))))
    (pss_consD (ps_par3D (i := 5) (j := 6) (l := 7) (all3 rfl rfl rfl) rfl hN rfl rfl rfl (by decide) (by decide) (by decide) rfl rfl rfl (pe_us h__law_pick hr hG tk rfl (pa_consD (pe_nm 0) (pa_consD (pe_nm 3) pa_nilD))) (pe_us h__law_pick hr hG tk rfl (pa_consD (pe_nm 0) (pa_consD (pe_nm 4) pa_nilD))) (pe_us h__law_take hr hG tk rfl (pa_consD (pe_nm 0) (pa_consD pe_intD pa_nilD))) (by rfl))
    (pss_consD (ps_ifD (pt_cmpD (cEq hu64) (pe_nm 7) pe_intD (nomark _)) (pss_consD (ps_retD (pe_tupD (pa_consD pe_strD (pa_consD (pe_us h__law_pick hr hG tk rfl (pa_consD (pe_nm 0) (pa_consD (pe_nm 4) pa_nilD))) (pa_consD (pe_nm 6) pa_nilD)))))
    pss_nilD) pss_nilD)
    (pss_consD (ps_ifD (PW.pt (pw_andD (pt_cmpD (cEq hu64) (pe_nm 7) pe_intD (nomark _)) (pw_and1D (pt_cmpD (cEq hu64) (pe_us h__law_take hr hG tk rfl (pa_consD (pe_nm 0) (pa_consD pe_intD pa_nilD))) pe_intD (nomark _))))) (pss_consD (ps_retD (pe_tupD (pa_consD pe_strD (pa_consD (pe_nm 6) pa_nilD))))
    pss_nilD) pss_nilD)
    (pss_consD (ps_setD (i := 8) rfl hN rfl (by first | exact .inl rfl | exact .inr rfl) (pe_get2 hu65 (pe_nm 2) (pe_tupD (pa_consD (pe_nm 5) (pa_consD (pe_nm 6) pa_nilD))) (pe_ix2 hu65 (pe_lstD (pa_consD pe_strD (pa_consD pe_strD (pa_consD pe_strD pa_nilD)))) (pe_us h__law_take hr hG tk rfl (pa_consD (pe_nm 0) (pa_consD pe_intD pa_nilD))))))
    (pss_consD (ps_st2 hu65 (pe_ix2 hu65 (pe_lstD (pa_consD pe_strD (pa_consD pe_strD pa_nilD))) (pe_ctD cf_int rfl R.b_int b_int (pa_consD (pe_cmpD (cEq hu64) (pe_nm 8) pe_strD (nomark _)) pa_nilD))) (pe_nm 2) (pe_tupD (pa_consD (pe_nm 5) (pa_consD (pe_nm 6) pa_nilD))))
    (pss_consD (ps_retD (pe_tupD (pa_consD (pe_ix2 hu65 (pe_lstD (pa_consD pe_strD (pa_consD pe_strD pa_nilD))) (pe_ctD cf_int rfl R.b_int b_int (pa_consD (pe_cmpD (cEq hu64) (pe_nm 8) pe_strD (nomark _)) pa_nilD))) (pa_consD (pe_nm 5) (pa_consD (pe_nm 6) pa_nilD)))))
    pss_nilD)))))))))
abbrev s__law_row : Stmt := top 26
theorem sc__law_row : FnScope ["_law_box_here", "_law_world_here", "_law_many", "_law_states", "_law_found", "_law_turn"] ["_law_box_here", "_law_world_here", "_law_many"] (defScope s__law_row) := ⟨rfl, rfl, rfl, by decide +kernel, rfl, by decide +kernel, by decide +kernel⟩
theorem ok__law_row (F : FunD K "_law_row" "_law_row" (defArgs s__law_row) (defBody s__law_row) (defScope s__law_row) [] [] fA fd) (gl : mg "_law_row" = some (.ref fA)) (R : Fr w K mg) (h__law_take : Has P w K mg base k "_law_take" ["_law_box_here", "_law_many"] 2 F__law_take) (h__law_deed : Has P w K mg base k "_law_deed" ["_law_box_here", "_law_world_here", "_law_states"] 3 F__law_deed) : Has P w K mg base (k + 1) "_law_row" ["_law_box_here", "_law_world_here", "_law_many"] 3 F__law_row :=
  has_of F gl (FunD.bindsN (ps := ["_law_box_here", "_law_world_here", "_law_many"]) F fun _ _ _ _ _ _ us hl => match us, hl with | [_, _, _], _ => rfl) (fnD (K := kn K) (pm := [true, true, true]) (N := ["_law_box_here", "_law_world_here", "_law_many", "_law_states", "_law_found", "_law_turn"]) (g := (G__law_row F__law_take F__law_deed)) F sc__law_row rfl (fun cdv A outer s H E W hr hG tk po => by
      have hN := sc__law_row.nd
      have hu := hr.un200
      have hu64 := hr.un64
      have hu65 := hr.un65
      exact (pss_consD (ps_par2D (i := 3) (j := 4) (all2 rfl rfl) rfl hN rfl rfl (by decide) rfl rfl pe_dT (pe_lstD pa_nilD) (by rfl))
    (pss_consD (ps_forD po rfl (pi_rng1D rfl R.b_range (pe_us h__law_take hr hG tk rfl (pa_consD (pe_nm 0) (pa_consD (pe_add4 (pe_nm 2) pe_intD) pa_nilD)))) (pg_nmD 5 hN) (pss_consD (ps_expD (pe_oD ow_append (pe_nm 4) (pa_consD (pe_us h__law_deed hr hG tk rfl (pa_consD (pe_nm 0) (pa_consD (pe_nm 1) (pa_consD (pe_nm 3) pa_nilD)))) pa_nilD)))
    pss_nilD))
    (pss_consD (ps_retD (pe_nm 4))
    pss_nilD)))))
abbrev s__law_spoilt : Stmt := top 27
theorem sc__law_spoilt : FnScope ["_law_box_here", "_law_value", "_law_items", "_law_rows", "_law_at", "_law_form"] ["_law_box_here", "_law_value", "_law_items"] (defScope s__law_spoilt) := ⟨rfl, rfl, rfl, by decide +kernel, rfl, by decide +kernel, by decide +kernel⟩
theorem ok__law_spoilt (F : FunD K "_law_spoilt" "_law_spoilt" (defArgs s__law_spoilt) (defBody s__law_spoilt) (defScope s__law_spoilt) [] [] fA fd) (gl : mg "_law_spoilt" = some (.ref fA)) (R : Fr w K mg) (h__law_pick : Has P w K mg base k "_law_pick" ["_law_box_here", "_law_items"] 2 F__law_pick) (h__law_take : Has P w K mg base k "_law_take" ["_law_box_here", "_law_many"] 2 F__law_take) : ∀ n : Nat, Has P w K mg base (k + n) "_law_spoilt" ["_law_box_here", "_law_value", "_law_items"] 3 (F__law_spoilt n)
  | 0 => has_of F gl (FunD.bindsN (ps := ["_law_box_here", "_law_value", "_law_items"]) F fun _ _ _ _ _ _ us hl => match us, hl with | [_, _, _], _ => rfl) fn_zero
  | n + 1 => by
    have h__law_spoilt := ok__law_spoilt F gl R h__law_pick h__law_take n
    have h__law_pick := h__law_pick.mono (Nat.le_add_right k n)
    have h__law_take := h__law_take.mono (Nat.le_add_right k n)
    exact has_of F gl (FunD.bindsN (ps := ["_law_box_here", "_law_value", "_law_items"]) F fun _ _ _ _ _ _ us hl => match us, hl with | [_, _, _], _ => rfl) (fnD (K := kn K) (k := k + n) (pm := [true, true, true]) (N := ["_law_box_here", "_law_value", "_law_items", "_law_rows", "_law_at", "_law_form"]) (g := (G__law_spoilt F__law_pick F__law_take (F__law_spoilt n))) F sc__law_spoilt rfl (fun cdv A outer s H E W hr hG tk po => by
      have hN := sc__law_spoilt.nd
      have hu := hr.un200
      have hu64 := hr.un64
      have hu65 := hr.un65
      exact (pss_consD (ps_ifD (PW.pt (pw_orD (pt_notD (pt_valD (pe_isiT rfl R.b_isinstance (pe_nm 1) (.cons rfl R.b_tuple (by decide +kernel) (by decide) (by decide) rfl (.cons rfl R.b_list (by decide +kernel) (by decide) (by decide) rfl .nil)) (by decide)))) (pw_orD (pt_cmpD (cEq hu64) (pe_cbD cf_len rfl R.b_len b_len (pa_consD (pe_nm 1) pa_nilD)) pe_intD (nomark _)) (pw_or1D (pt_cmpD (cEq hu64) (pe_us h__law_take hr hG tk rfl (pa_consD (pe_nm 0) (pa_consD pe_intD pa_nilD))) pe_intD (nomark _)))))) (pss_consD (ps_retD (pe_us h__law_pick hr hG tk rfl (pa_consD (pe_nm 0) (pa_consD (pe_nm 2) pa_nilD))))
    pss_nilD) pss_nilD)
    (pss_consD (ps_par3D (i := 3) (j := 4) (l := 5) (all3 rfl rfl rfl) rfl hN rfl rfl rfl (by decide) (by decide) (by decide) rfl rfl rfl (pe_ctD (cf_listS rfl) rfl R.b_list b_list (pa_consD (pe_nm 1) pa_nilD)) (pe_us h__law_take hr hG tk rfl (pa_consD (pe_nm 0) (pa_consD (pe_cbD cf_len rfl R.b_len b_len (pa_consD (pe_nm 1) pa_nilD)) pa_nilD))) (pe_us h__law_take hr hG tk rfl (pa_consD (pe_nm 0) (pa_consD pe_intD pa_nilD))) (by rfl))
    (pss_consD (ps_ifD (pt_cmpD cLt (pe_nm 5) pe_intD (nomark _)) (pss_consD (ps_st2 hu65 (pe_us h__law_spoilt hr hG tk rfl (pa_consD (pe_nm 0) (pa_consD (pe_ix2 hu65 (pe_nm 3) (pe_nm 4)) (pa_consD (pe_nm 2) pa_nilD)))) (pe_nm 3) (pe_nm 4))
    pss_nilD) (pss_consD (ps_ifD (pt_cmpD (cEq hu64) (pe_nm 5) pe_intD (nomark _)) (pss_consD (ps_expD (pe_oD ow_pop (pe_nm 3) (pa_consD (pe_nm 4) pa_nilD)))
    pss_nilD) (pss_consD (ps_ifD (pt_cmpD (cEq hu64) (pe_nm 5) pe_intD (nomark _)) (pss_consD (ps_expD (pe_oD ow_insert (pe_nm 3) (pa_consD (pe_nm 4) (pa_consD (pe_us h__law_pick hr hG tk rfl (pa_consD (pe_nm 0) (pa_consD (pe_nm 2) pa_nilD))) pa_nilD))))
    pss_nilD) (pss_consD (ps_ifD (pt_cmpD (cEq hu64) (pe_nm 5) pe_intD (nomark _)) (pss_consD (ps_expD (pe_oD ow_insert (pe_nm 3) (pa_consD (pe_nm 4) (pa_consD (pe_ix2 hu65 (pe_nm 3) (pe_nm 4)) pa_nilD))))
    pss_nilD) (pss_consD (ps_slS (pe_revD (pe_slD (pe_nm 3) (po_soD (pe_nm 4)) (po_soD (pe_add4 (pe_nm 4) pe_intD)))) (pe_nm 3) (pe_nm 4) (pe_add4 (pe_nm 4) pe_intD))
    pss_nilD))
    pss_nilD))
    pss_nilD))
    pss_nilD))
    (pss_consD (ps_retD (pe_ifD (pt_valD (pe_isi1 rfl R.b_isinstance (pe_nm 1) (.cons rfl R.b_list (by decide +kernel) (by decide) (by decide) rfl .nil))) (pe_nm 3) (pe_ctD cf_tuple rfl R.b_tuple b_tuple (pa_consD (pe_nm 3) pa_nilD))))
    pss_nilD))))))
abbrev s__law_is_name : Stmt := top 28
theorem sc__law_is_name : FnScope ["_law_value", "_law_sign"] ["_law_value"] (defScope s__law_is_name) := ⟨rfl, rfl, rfl, by decide +kernel, rfl, by decide +kernel, by decide +kernel⟩
theorem ok__law_is_name (F : FunD K "_law_is_name" "_law_is_name" (defArgs s__law_is_name) (defBody s__law_is_name) (defScope s__law_is_name) [] [] fA fd) (gl : mg "_law_is_name" = some (.ref fA)) (R : Fr w K mg)  : Has P w K mg base (k + 1) "_law_is_name" ["_law_value"] 1 F__law_is_name :=
  has_of F gl (FunD.bindsN (ps := ["_law_value"]) F fun _ _ _ _ _ _ us hl => match us, hl with | [_], _ => rfl) (fnD (K := kn K) (pm := [true]) (N := ["_law_value", "_law_sign"]) (g := G__law_is_name) F sc__law_is_name rfl (fun cdv A outer s H E W hr hG tk po => by
      have hN := sc__law_is_name.nd
      have hu := hr.un200
      have hu64 := hr.un64
      have hu65 := hr.un65
      exact (pss_consD (ps_ifD (PW.pt (pw_orD (pt_notD (pt_valD (pe_isi1 rfl R.b_isinstance (pe_nm 0) (.cons rfl R.b_str (by decide +kernel) (by decide) (by decide) rfl .nil)))) (pw_or1D (pt_notD (pt_chD cLe cLe pe_intD (pe_cbD cf_len rfl R.b_len b_len (pa_consD (pe_nm 0) pa_nilD)) pe_intD))))) (pss_consD (ps_retD pe_blD)
    pss_nilD) pss_nilD)
    (pss_consD (ps_retD (pe_cmpD (cEq hu64) (pe_lcD (own := [("_law_sign", 1)]) rfl hN (pi_strD (pe_nm 0)) (show BlkOk ["_law_value", "_law_sign"] (defScope s__law_is_name) _ _ from blkOk_by (by decide +kernel)) gl_nm (fun _ _ _ _ _ => (pg_nmD 1 hN)) (fun _ _ _ _ _ => (pts_one (pt_cmpD (cNi3 hu65) (pe_nm 1) pe_strD (by with_unfolding_all rfl)))) (fun _ _ _ _ _ => (pe_nm 1))) (pe_lstD pa_nilD) (nomark _)))
    pss_nilD))))
abbrev s__law_is_deed : Stmt := top 29
theorem sc__law_is_deed : FnScope ["_law_value", "_law_many", "_law_name"] ["_law_value"] (defScope s__law_is_deed) := ⟨rfl, rfl, rfl, by decide +kernel, rfl, by decide +kernel, by decide +kernel⟩
theorem ok__law_is_deed (F : FunD K "_law_is_deed" "_law_is_deed" (defArgs s__law_is_deed) (defBody s__law_is_deed) (defScope s__law_is_deed) [] [] fA fd) (gl : mg "_law_is_deed" = some (.ref fA)) (R : Fr w K mg) (h__law_is_name : Has P w K mg base k "_law_is_name" ["_law_value"] 1 F__law_is_name) : Has P w K mg base (k + 1) "_law_is_deed" ["_law_value"] 1 F__law_is_deed :=
  has_of F gl (FunD.bindsN (ps := ["_law_value"]) F fun _ _ _ _ _ _ us hl => match us, hl with | [_], _ => rfl) (fnD (K := kn K) (pm := [true]) (N := ["_law_value", "_law_many", "_law_name"]) (g := (G__law_is_deed F__law_is_name)) F sc__law_is_deed rfl (fun cdv A outer s H E W hr hG tk po => by
      have hN := sc__law_is_deed.nd
      have hu := hr.un200
      have hu64 := hr.un64
      have hu65 := hr.un65
      exact (pss_consD (ps_ifD (PW.pt (pw_orD (pt_notD (pt_valD (pe_isi1 rfl R.b_isinstance (pe_nm 0) (.cons rfl R.b_tuple (by decide +kernel) (by decide) (by decide) rfl .nil)))) (pw_orD (pt_cmpD (cEq hu64) (pe_cbD cf_len rfl R.b_len b_len (pa_consD (pe_nm 0) pa_nilD)) pe_intD (nomark _)) (pw_or1D (pt_notD (pt_valD (pe_isi1 rfl R.b_isinstance (pe_ix2 hu65 (pe_nm 0) pe_intD) (.cons rfl R.b_str (by decide +kernel) (by decide) (by decide) rfl .nil)))))))) (pss_consD (ps_retD pe_blD)
    pss_nilD) pss_nilD)
    (pss_consD (ps_setD (i := 1) rfl hN rfl (by first | exact .inl rfl | exact .inr rfl) (pe_get2 hu65 (pe_dispC (l := [("lay", .int 3), ("lift", .int 3), ("share", .int 3), ("empty", .int 2)]) (.int (.int (.int (.int .nil)))) (by decide) (List.cons_ne_nil _ _) (by decide +kernel)) (pe_ix2 hu65 (pe_nm 0) pe_intD) pe_intD))
    (pss_consD (ps_retD (pe_andD (pe_cmpD (cEq hu64) (pe_cbD cf_len rfl R.b_len b_len (pa_consD (pe_nm 0) pa_nilD)) (pe_nm 1) (nomark _)) (pe_oneD (pe_cmpD (cEq hu64) (pe_lcD (own := [("_law_name", 2)]) rfl hN (pi_seqD (pe_slD (pe_nm 0) (po_soD pe_intD) po_noD)) (show BlkOk ["_law_value", "_law_many", "_law_name"] (defScope s__law_is_deed) _ _ from blkOk_by (by decide +kernel)) gl_nm (fun _ _ _ _ _ => (pg_nmD 2 hN)) (fun _ _ _ _ _ => (pts_one (pt_notD (pt_valD (pe_us h__law_is_name hr hG takes_no rfl (pa_consD (pe_nm 2) pa_nilD)))))) (fun _ _ _ _ _ => (pe_nm 2))) (pe_lstD pa_nilD) (nomark _)))))
    pss_nilD)))))
abbrev s__law_first_irregular : Stmt := top 30
theorem sc__law_first_irregular : FnScope ["_law_row_here", "_law_last", "_law_at", "_law_one"] ["_law_row_here"] (defScope s__law_first_irregular) := ⟨rfl, rfl, rfl, by decide +kernel, rfl, by decide +kernel, by decide +kernel⟩
theorem ok__law_first_irregular (F : FunD K "_law_first_irregular" "_law_first_irregular" (defArgs s__law_first_irregular) (defBody s__law_first_irregular) (defScope s__law_first_irregular) [] [] fA fd) (gl : mg "_law_first_irregular" = some (.ref fA)) (R : Fr w K mg)  : Has P w K mg base (k + 1) "_law_first_irregular" ["_law_row_here"] 1 F__law_first_irregular :=
  has_of F gl (FunD.bindsN (ps := ["_law_row_here"]) F fun _ _ _ _ _ _ us hl => match us, hl with | [_], _ => rfl) (fnD (K := kn K) (pm := [true]) (N := ["_law_row_here", "_law_last", "_law_at", "_law_one"]) (g := G__law_first_irregular) F sc__law_first_irregular rfl (fun cdv A outer s H E W hr hG tk po => by
      have hN := sc__law_first_irregular.nd
      have hu := hr.un200
      have hu64 := hr.un64
      have hu65 := hr.un65
      exact (pss_consD (ps_setD (i := 1) rfl hN rfl (by first | exact .inl rfl | exact .inr rfl) pe_dT)
    (pss_consD (ps_forD po rfl (pi_enumAD rfl R.b_enumerate (pe_nm 0)) (pg_tpD rfl (pgs_consD (pg_nmD 2 hN) (pgs_consD (pg_nmD 3 hN) pgs_nilD))) (pss_consD (ps_ifD (pt_cmpD (cIn3 hu65) (pe_ix2 hu65 (pe_nm 3) pe_intD) (pe_tupD (pa_consD pe_strD (pa_consD pe_strD pa_nilD))) (by with_unfolding_all rfl)) (pss_consD (ps_ifD (pt_cmpD (cEq hu64) (pe_get1 hu65 (pe_nm 1) (pe_slD (pe_nm 3) (po_soD pe_intD) po_noD)) (pe_ix2 hu65 (pe_nm 3) pe_intD) (nomark _)) (pss_consD (ps_retD (pe_nm 2))
    pss_nilD) pss_nilD)
    (pss_consD (ps_st2 hu65 (pe_ix2 hu65 (pe_nm 3) pe_intD) (pe_nm 1) (pe_slD (pe_nm 3) (po_soD pe_intD) po_noD))
    pss_nilD)) pss_nilD)
    pss_nilD))
    (pss_consD (ps_retD pe_nonD)
    pss_nilD)))))
abbrev s__law_text : Stmt := top 31
theorem sc__law_text : FnScope ["_law_row_here", "_law_one"] ["_law_row_here"] (defScope s__law_text) := ⟨rfl, rfl, rfl, by decide +kernel, rfl, by decide +kernel, by decide +kernel⟩
theorem ok__law_text (F : FunD K "_law_text" "_law_text" (defArgs s__law_text) (defBody s__law_text) (defScope s__law_text) [] [] fA fd) (gl : mg "_law_text" = some (.ref fA)) (R : Fr w K mg)  : Has P w K mg base (k + 1) "_law_text" ["_law_row_here"] 1 F__law_text :=
  has_of F gl (FunD.bindsN (ps := ["_law_row_here"]) F fun _ _ _ _ _ _ us hl => match us, hl with | [_], _ => rfl) (fnD (K := kn K) (pm := [true]) (N := ["_law_row_here", "_law_one"]) (g := G__law_text) F sc__law_text rfl (fun cdv A outer s H E W hr hG tk po => by
      have hN := sc__law_text.nd
      have hu := hr.un200
      have hu64 := hr.un64
      have hu65 := hr.un65
      exact (pss_consD (ps_retD (pe_ifD (pt_cmpD cGt (pe_cbD cf_len rfl R.b_len b_len (pa_consD (pe_nm 0) pa_nilD)) pe_intD (nomark _)) (pe_mD (mf_joinS rfl) pe_strD (pa_consD (pe_lcD (own := [("_law_one", 1)]) rfl hN (pi_seqD (pe_nm 0)) (show BlkOk ["_law_row_here", "_law_one"] (defScope s__law_text) _ _ from blkOk_by (by decide +kernel)) gl_nm (fun _ _ _ _ _ => (pg_nmD 1 hN)) (fun _ _ _ _ _ => pts_nilD) (fun _ _ _ _ _ => (pe_mD (mf_joinS rfl) pe_strD (pa_consD (pe_nm 1) pa_nilD)))) pa_nilD)) pe_strD))
    pss_nilD)))
abbrev s__law_due : Stmt := top 32
theorem sc__law_due : FnScope ["_law_text_here", "_law_row_here", "_law_at", "_law_one", "_law_words"] ["_law_text_here"] (defScope s__law_due) := ⟨rfl, rfl, rfl, by decide +kernel, rfl, by decide +kernel, by decide +kernel⟩
theorem ok__law_due (F : FunD K "_law_due" "_law_due" (defArgs s__law_due) (defBody s__law_due) (defScope s__law_due) [] [] fA fd) (gl : mg "_law_due" = some (.ref fA)) (R : Fr w K mg) (h__law_first_irregular : Has P w K mg base k "_law_first_irregular" ["_law_row_here"] 1 F__law_first_irregular) (h__law_is_deed : Has P w K mg base k "_law_is_deed" ["_law_value"] 1 F__law_is_deed) : Has P w K mg base (k + 1) "_law_due" ["_law_text_here"] 1 F__law_due :=
  has_of F gl (FunD.bindsN (ps := ["_law_text_here"]) F fun _ _ _ _ _ _ us hl => match us, hl with | [_], _ => rfl) (fnD (K := kn K) (pm := [true]) (N := ["_law_text_here", "_law_row_here", "_law_at", "_law_one", "_law_words"]) (g := (G__law_due F__law_first_irregular F__law_is_deed)) F sc__law_due rfl (fun cdv A outer s H E W hr hG tk po => by
      have hN := sc__law_due.nd
      have hu := hr.un200
      have hu64 := hr.un64
      have hu65 := hr.un65
      exact (pss_consD (ps_ifD (pt_cmpD (cEq hu64) (pe_nm 0) pe_strD (nomark _)) (pss_consD (ps_retD (pe_tupD pa_nilD))
    pss_nilD) pss_nilD)
    (pss_consD (ps_setLcD (i := 1) (hp := rfl) (hy := rfl) (hyl := rfl) (hsw := sw_true rfl rfl rfl (by decide +kernel)) (hc := rfl) (hN := hN) (own := [("_law_words", 4)]) (pi_seqD (pe_mD mf_split (pe_nm 0) (pa_consD pe_strD pa_nilD))) (show BlkOk ["_law_text_here", "_law_row_here", "_law_at", "_law_one", "_law_words"] (defScope s__law_due) _ _ from blkOk_by (by decide +kernel)) gl_nm (fun _ _ _ _ _ => (pg_nmD 4 hN)) (fun _ _ _ _ _ => pts_nilD) (fun _ _ _ _ _ => (pe_ctD cf_tuple rfl R.b_tuple b_tuple (pa_consD (pe_mD mf_split (pe_nm 4) (pa_consD pe_strD pa_nilD)) pa_nilD))))
    (pss_consD (ps_forD po rfl (pi_enumAD rfl R.b_enumerate (pe_nm 1)) (pg_tpD rfl (pgs_consD (pg_nmD 2 hN) (pgs_consD (pg_nmD 3 hN) pgs_nilD))) (pss_consD (ps_ifD (pt_notD (pt_valD (pe_us h__law_is_deed hr hG tk rfl (pa_consD (pe_nm 3) pa_nilD)))) (pss_consD (ps_retD (pe_tupD (pa_consD pe_strD (pa_consD (pe_nm 2) pa_nilD))))
    pss_nilD) pss_nilD)
    pss_nilD))
    (pss_consD (ps_setD (i := 2) rfl hN rfl (by first | exact .inl rfl | exact .inr rfl) (pe_us h__law_first_irregular hr hG tk rfl (pa_consD (pe_nm 1) pa_nilD)))
    (pss_consD (ps_retD (pe_ifD (pt_cmpD cIs (pe_nm 2) pe_nonD (nomark _)) (pe_ctD cf_tuple rfl R.b_tuple b_tuple (pa_consD (pe_nm 1) pa_nilD)) (pe_tupD (pa_consD pe_strD (pa_consD (pe_nm 2) pa_nilD)))))
    pss_nilD)))))))
abbrev s__law_told : Stmt := top 33
theorem sc__law_told : FnScope ["_law_text_here", "_law_found", "e", "_law_strange"] ["_law_text_here"] (defScope s__law_told) := ⟨rfl, rfl, rfl, by decide +kernel, rfl, by decide +kernel, by decide +kernel⟩
theorem ok__law_told (F : FunD K "_law_told" "_law_told" (defArgs s__law_told) (defBody s__law_told) (defScope s__law_told) [] [] fA fd) (gl : mg "_law_told" = some (.ref fA)) (R : Fr w K mg) (h_parse_deeds : Has P w K mg base k "parse_deeds" ["text"] 1 F_parse_deeds) : Has P w K mg base (k + 1) "_law_told" ["_law_text_here"] 1 F__law_told :=
  has_of F gl (FunD.bindsN (ps := ["_law_text_here"]) F fun _ _ _ _ _ _ us hl => match us, hl with | [_], _ => rfl) (fnD (K := kn K) (pm := [true]) (N := ["_law_text_here", "_law_found", "e", "_law_strange"]) (g := (G__law_told F_parse_deeds)) F sc__law_told rfl (fun cdv A outer s H E W hr hG tk po => by
      have hN := sc__law_told.nd
      have hu := hr.un200
      have hu64 := hr.un64
      have hu65 := hr.un65
      exact (pss_consD (ps_setD (i := 1) rfl hN rfl (by first | exact .inl rfl | exact .inr rfl) pe_strD)
    (pss_consD (ps_tryD R.T tk (fun W pn xe tk po => (pss_consD (ps_setD (i := 1) rfl hN rfl (by first | exact .inl rfl | exact .inr rfl) (pe_us h_parse_deeds hr hG tk rfl (pa_consD (pe_nm 0) pa_nilD)))
    pss_nilD))
    (.as (tst1 R.T m_FoundError rfl) (show ∀ y ∈ (["FoundError"] : List Str), y ∈ cxs by decide +kernel) hN (i := 2) rfl rfl rfl (fun _ _ _ _ _ hz hf => (pss_consD (ps_setD (i := 3) rfl hN rfl (by first | exact .inl rfl | exact .inr rfl) (pe_isET R.T (show ∀ y ∈ (["Blocked", "NoDeed", "NoWord"] : List Str), y ∈ cxs by decide +kernel) (.cons rfl (by decide) rfl (.cons rfl (by decide) rfl (.cons rfl (by decide) rfl .nil))) hz hf rfl R.b_isinstance (i := 2) rfl (by decide)))
    (pss_consD (ps_ifD (PW.pt (pw_andD (pt_valD (pe_isE1 R.T m_NoText hz hf rfl R.b_isinstance rfl (i := 2) rfl)) (pw_andD (pt_notD (pt_valD (pe_isE1 R.T m_Irregular hz hf rfl R.b_isinstance rfl (i := 2) rfl))) (pw_and1D (pt_notD (pt_valD (pe_nm 3))))))) (pss_consD (ps_setD (i := 1) rfl hN rfl (by first | exact .inl rfl | exact .inr rfl) (pe_tupD (pa_consD pe_strD (pa_consD (pe_fldD R.T (by decide +kernel) hz hf (i := 2) rfl) pa_nilD))))
    pss_nilD) pss_nilD)
    (pss_consD (ps_ifD (PW.pt (pw_andD (pt_valD (pe_isE1 R.T m_Irregular hz hf rfl R.b_isinstance rfl (i := 2) rfl)) (pw_andD (pt_notD (pt_valD (pe_isE1 R.T m_NoText hz hf rfl R.b_isinstance rfl (i := 2) rfl))) (pw_and1D (pt_notD (pt_valD (pe_nm 3))))))) (pss_consD (ps_setD (i := 1) rfl hN rfl (by first | exact .inl rfl | exact .inr rfl) (pe_tupD (pa_consD pe_strD (pa_consD (pe_fldD R.T (by decide +kernel) hz hf (i := 2) rfl) pa_nilD))))
    pss_nilD) pss_nilD)
    pss_nilD))))
    .nil))
    (pss_consD (ps_retD (pe_nm 1))
    pss_nilD)))))
abbrev s__law_odd_text : Stmt := top 34
theorem sc__law_odd_text : FnScope ["_law_box_here", "_law_row_here", "_law_form", "_law_signs", "_law_words", "_law_rows", "_law_at", "_law_turned", "_law_one"] ["_law_box_here", "_law_row_here"] (defScope s__law_odd_text) := ⟨rfl, rfl, rfl, by decide +kernel, rfl, by decide +kernel, by decide +kernel⟩
theorem ok__law_odd_text (F : FunD K "_law_odd_text" "_law_odd_text" (defArgs s__law_odd_text) (defBody s__law_odd_text) (defScope s__law_odd_text) [] [] fA fd) (gl : mg "_law_odd_text" = some (.ref fA)) (R : Fr w K mg) (h__law_take : Has P w K mg base k "_law_take" ["_law_box_here", "_law_many"] 2 F__law_take) (h__law_spoilt : Has P w K mg base k "_law_spoilt" ["_law_box_here", "_law_value", "_law_items"] 3 (F__law_spoilt 24)) (h__law_text : Has P w K mg base k "_law_text" ["_law_row_here"] 1 F__law_text) : Has P w K mg base (k + 1) "_law_odd_text" ["_law_box_here", "_law_row_here"] 2 F__law_odd_text :=
  has_of F gl (FunD.bindsN (ps := ["_law_box_here", "_law_row_here"]) F fun _ _ _ _ _ _ us hl => match us, hl with | [_, _], _ => rfl) (fnD (K := kn K) (pm := [true, true]) (N := ["_law_box_here", "_law_row_here", "_law_form", "_law_signs", "_law_words", "_law_rows", "_law_at", "_law_turned", "_law_one"]) (g := (G__law_odd_text F__law_take (F__law_spoilt 24) F__law_text)) F sc__law_odd_text rfl (fun cdv A outer s H E W hr hG tk po => by
      have hN := sc__law_odd_text.nd
      have hu := hr.un200
      have hu64 := hr.un64
      have hu65 := hr.un65
      exact (pss_consD (ps_par2D (i := 2) (j := 3) (all2 rfl rfl) rfl hN rfl rfl (by decide) rfl rfl (pe_us h__law_take hr hG tk rfl (pa_consD (pe_nm 0) (pa_consD pe_intD pa_nilD))) (pe_add4 (pe_ctD (cf_listS rfl) rfl R.b_list b_list (pa_consD pe_strD pa_nilD)) (pe_lstD (pa_consD pe_strD pa_nilD))) (by rfl))
    (pss_consD (ps_ifD (pt_cmpD (cEq hu64) (pe_nm 2) pe_intD (nomark _)) (pss_consD (ps_retD (pe_mD (mf_joinS rfl) pe_strD (pa_consD (pe_slD (pe_us h__law_spoilt hr hG tk rfl (pa_consD (pe_nm 0) (pa_consD (pe_add4 (pe_ctD (cf_listS rfl) rfl R.b_list b_list (pa_consD (pe_us h__law_text hr hG tk rfl (pa_consD (pe_nm 1) pa_nilD)) pa_nilD)) (pe_lstD (pa_consD pe_strD pa_nilD))) (pa_consD (pe_nm 3) pa_nilD)))) po_noD (po_soD pe_intD)) pa_nilD)))
    pss_nilD) pss_nilD)
    (pss_consD (ps_setD (i := 4) rfl hN rfl (by first | exact .inl rfl | exact .inr rfl) (pe_lstD (pa_consD pe_strD (pa_consD pe_strD (pa_consD pe_strD (pa_consD pe_strD (pa_consD pe_strD (pa_consD pe_strD (pa_consD pe_strD (pa_consD pe_strD (pa_consD pe_strD (pa_consD pe_strD (pa_consD pe_strD pa_nilD)))))))))))))
    (pss_consD (ps_setD (i := 5) rfl hN rfl (by first | exact .inl rfl | exact .inr rfl) (pe_add4 (pe_lcD (own := [("_law_one", 8)]) rfl hN (pi_seqD (pe_nm 1)) (show BlkOk ["_law_box_here", "_law_row_here", "_law_form", "_law_signs", "_law_words", "_law_rows", "_law_at", "_law_turned", "_law_one"] (defScope s__law_odd_text) _ _ from blkOk_by (by decide +kernel)) gl_nm (fun _ _ _ _ _ => (pg_nmD 8 hN)) (fun _ _ _ _ _ => pts_nilD) (fun _ _ _ _ _ => (pe_ctD (cf_listS rfl) rfl R.b_list b_list (pa_consD (pe_nm 8) pa_nilD)))) (pe_lstD (pa_consD (pe_lstD (pa_consD pe_strD (pa_consD pe_strD (pa_consD pe_strD pa_nilD)))) pa_nilD))))
    (pss_consD (ps_ifD (pt_cmpD (cEq hu64) (pe_nm 2) pe_intD (nomark _)) (pss_consD (ps_setD (i := 6) rfl hN rfl (by first | exact .inl rfl | exact .inr rfl) (pe_us h__law_take hr hG tk rfl (pa_consD (pe_nm 0) (pa_consD (pe_cbD cf_len rfl R.b_len b_len (pa_consD (pe_nm 5) pa_nilD)) pa_nilD))))
    (pss_consD (ps_st2 hu65 (pe_slD (pe_ctD (cf_listS rfl) rfl R.b_list b_list (pa_consD (pe_us h__law_spoilt hr hG tk rfl (pa_consD (pe_nm 0) (pa_consD (pe_add4 (pe_ix2 hu65 (pe_nm 5) (pe_nm 6)) (pe_lstD (pa_consD pe_strD pa_nilD))) (pa_consD (pe_nm 4) pa_nilD)))) pa_nilD)) po_noD (po_soD pe_intD)) (pe_nm 5) (pe_nm 6))
    pss_nilD)) (pss_consD (ps_setD (i := 6) rfl hN rfl (by first | exact .inl rfl | exact .inr rfl) (pe_us h__law_take hr hG tk rfl (pa_consD (pe_nm 0) (pa_consD (pe_cbD cf_len rfl R.b_len b_len (pa_consD (pe_nm 5) pa_nilD)) pa_nilD))))
    (pss_consD (ps_setD (i := 7) rfl hN rfl (by first | exact .inl rfl | exact .inr rfl) (pe_revD (pe_slD (pe_nm 5) (po_soD (pe_nm 6)) (po_soD (pe_add4 (pe_nm 6) pe_intD)))))
    (pss_consD (ps_slS (pe_add4 (pe_nm 7) (pe_mulD (pe_slD (pe_nm 5) (po_soD (pe_nm 6)) (po_soD (pe_add4 (pe_nm 6) pe_intD))) (pe_us h__law_take hr hG tk rfl (pa_consD (pe_nm 0) (pa_consD pe_intD pa_nilD))))) (pe_nm 5) (pe_nm 6) (pe_add4 (pe_nm 6) pe_intD))
    pss_nilD))))
    (pss_consD (ps_retD (pe_mD (mf_joinS rfl) pe_strD (pa_consD (pe_lcD (own := [("_law_one", 8)]) rfl hN (pi_seqD (pe_nm 5)) (show BlkOk ["_law_box_here", "_law_row_here", "_law_form", "_law_signs", "_law_words", "_law_rows", "_law_at", "_law_turned", "_law_one"] (defScope s__law_odd_text) _ _ from blkOk_by (by decide +kernel)) gl_nm (fun _ _ _ _ _ => (pg_nmD 8 hN)) (fun _ _ _ _ _ => pts_nilD) (fun _ _ _ _ _ => (pe_mD (mf_joinS rfl) pe_strD (pa_consD (pe_nm 8) pa_nilD)))) pa_nilD)))
    pss_nilD))))))))
abbrev s_law : Stmt := top 35
theorem sc_law : FnScope ["_law_script", "_law_k", "_law_box_here", "_law_row_here", "_law_asked", "_law_turn", "_law_text_here", "_law_some", "_law_found"] ["_law_script"] (defScope s_law) := ⟨rfl, rfl, rfl, by decide +kernel, rfl, by decide +kernel, by decide +kernel⟩
theorem okG_law (F : FunD K "law" "law" (defArgs s_law) (defBody s_law) (defScope s_law) [] [] fA fd) (gl : mg "law" = some (.ref fA)) (R : Fr w K mg) (h__law_box : Has P w K mg base k "_law_box" ["_law_script", "_law_k"] 2 F__law_box) (h__law_row : Has P w K mg base k "_law_row" ["_law_box_here", "_law_world_here", "_law_many"] 3 F__law_row) (h__law_world : Has P w K mg base k "_law_world" ["_law_box_here", "_law_most_hands", "_law_most_slots"] 3 F__law_world) (h__law_told : Has P w K mg base k "_law_told" ["_law_text_here"] 1 F__law_told) (h__law_take : Has P w K mg base k "_law_take" ["_law_box_here", "_law_many"] 2 F__law_take) (h__law_text : Has P w K mg base k "_law_text" ["_law_row_here"] 1 F__law_text) (h__law_odd_text : Has P w K mg base k "_law_odd_text" ["_law_box_here", "_law_row_here"] 2 F__law_odd_text) (h__law_due : Has P w K mg base k "_law_due" ["_law_text_here"] 1 F__law_due) (h_format_deeds : Has P w K mg base k "format_deeds" ["deeds"] 1 F_format_deeds) (h_parse_deeds : Has P w K mg base k "parse_deeds" ["text"] 1 F_parse_deeds) : FnG P w K mg base (k + 1) fA fd ["_law_script"] (spD (kn K) mg 1 F_law) :=
  fnD (K := kn K) (pm := [true]) (N := ["_law_script", "_law_k", "_law_box_here", "_law_row_here", "_law_asked", "_law_turn", "_law_text_here", "_law_some", "_law_found"]) (g := (G_law F__law_box F__law_row F__law_world F__law_told F__law_take F__law_text F__law_odd_text F__law_due F_format_deeds F_parse_deeds)) F sc_law rfl (fun cdv A outer s H E W hr hG tk po => by
      have hN := sc_law.nd
      have hu := hr.un200
      have hu64 := hr.un64
      have hu65 := hr.un65
      exact (pss_consD (ps_forD po rfl (pi_rng1D rfl R.b_range (pe_cbD (cf_max2 rfl) rfl R.b_max b_max (pa_consD pe_intD (pa_consD (pe_cbD (cf_min2 rfl) rfl R.b_min b_min (pa_consD pe_intD (pa_consD (pe_cbD cf_len rfl R.b_len b_len (pa_consD (pe_nm 0) pa_nilD)) pa_nilD))) pa_nilD)))) (pg_nmD 1 hN) (pss_consD (ps_setD (i := 2) rfl hN rfl (by first | exact .inl rfl | exact .inr rfl) (pe_us h__law_box hr hG tk rfl (pa_consD (pe_nm 0) (pa_consD (pe_nm 1) pa_nilD))))
    (pss_consD (ps_setD (i := 3) rfl hN rfl (by first | exact .inl rfl | exact .inr rfl) (pe_us h__law_row hr hG tk rfl (pa_consD (pe_nm 2) (pa_consD (pe_us h__law_world hr hG tk rfl (pa_consD (pe_nm 2) (pa_consD pe_intD (pa_consD pe_intD pa_nilD)))) (pa_consD (pe_ix2 hu65 (pe_lstD (pa_consD pe_intD (pa_consD pe_intD pa_nilD))) (pe_us h__law_take hr hG tk rfl (pa_consD (pe_nm 2) (pa_consD pe_intD pa_nilD)))) pa_nilD)))))
    (pss_consD (ps_setD (i := 4) rfl hN rfl (by first | exact .inl rfl | exact .inr rfl) (pe_lstD (pa_consD pe_strD (pa_consD pe_strD (pa_consD pe_strD (pa_consD pe_strD (pa_consD pe_strD (pa_consD pe_strD pa_nilD))))))))
    (pss_consD (ps_setD (i := 4) rfl hN rfl (by first | exact .inl rfl | exact .inr rfl) (pe_add4 (pe_nm 4) (pe_lstD (pa_consD pe_strD (pa_consD pe_strD (pa_consD pe_strD (pa_consD pe_strD (pa_consD pe_strD (pa_consD pe_strD (pa_consD pe_strD pa_nilD))))))))))
    (pss_consD (ps_setD (i := 4) rfl hN rfl (by first | exact .inl rfl | exact .inr rfl) (pe_add4 (pe_nm 4) (pe_lstD (pa_consD pe_strD (pa_consD pe_strD (pa_consD pe_strD pa_nilD))))))
    (pss_consD (ps_setD (i := 4) rfl hN rfl (by first | exact .inl rfl | exact .inr rfl) (pe_add4 (pe_nm 4) (pe_lstD (pa_consD pe_strD (pa_consD pe_strD (pa_consD (pe_us h__law_text hr hG tk rfl (pa_consD (pe_nm 3) pa_nilD)) (pa_consD (pe_add4 pe_strD (pe_us h__law_text hr hG tk rfl (pa_consD (pe_nm 3) pa_nilD))) (pa_consD (pe_add4 (pe_us h__law_text hr hG tk rfl (pa_consD (pe_nm 3) pa_nilD)) pe_strD) pa_nilD))))))))
    (pss_consD (ps_forD po rfl (pi_rng1D rfl R.b_range pe_intD) (pg_nmD 5 hN) (pss_consD (ps_expD (pe_oD ow_append (pe_nm 4) (pa_consD (pe_us h__law_odd_text hr hG tk rfl (pa_consD (pe_nm 2) (pa_consD (pe_nm 3) pa_nilD))) pa_nilD)))
    pss_nilD))
    (pss_consD (ps_forD po rfl (pi_seqD (pe_nm 4)) (pg_nmD 6 hN) (pss_consD (ps_setD (i := 8) rfl hN rfl (by first | exact .inl rfl | exact .inr rfl) (pe_us h__law_told hr hG tk rfl (pa_consD (pe_nm 6) pa_nilD)))
    (pss_consD (ps_ifD (pt_cmpD (cNe hu64) (pe_cbD (cf_repr hG hu) rfl R.b_repr b_repr (pa_consD (pe_nm 8) pa_nilD)) (pe_cbD (cf_repr hG hu) rfl R.b_repr b_repr (pa_consD (pe_us h__law_due hr hG tk rfl (pa_consD (pe_nm 6) pa_nilD)) pa_nilD)) (nomark _)) (pss_consD (ps_retD pe_blD)
    pss_nilD) pss_nilD)
    pss_nilD)))
    (pss_consD (ps_forD po rfl (pi_seqD (pe_tupD (pa_consD (pe_nm 3) (pa_consD (pe_ctD cf_tuple rfl R.b_tuple b_tuple (pa_consD (pe_nm 3) pa_nilD)) pa_nilD)))) (pg_nmD 7 hN) (pss_consD (ps_ifD (PW.pt (pw_orD (pt_cmpD (cNe hu64) (pe_us h_format_deeds hr hG tk rfl (pa_consD (pe_nm 7) pa_nilD)) (pe_us h__law_text hr hG tk rfl (pa_consD (pe_nm 3) pa_nilD)) (nomark _)) (pw_or1D (pt_cmpD (cNe hu64) (pe_us h_parse_deeds hr hG tk rfl (pa_consD (pe_us h_format_deeds hr hG tk rfl (pa_consD (pe_nm 7) pa_nilD)) pa_nilD)) (pe_ctD cf_tuple rfl R.b_tuple b_tuple (pa_consD (pe_nm 3) pa_nilD)) (nomark _))))) (pss_consD (ps_retD pe_blD)
    pss_nilD) pss_nilD)
    pss_nilD))
    pss_nilD))))))))))
    (pss_consD (ps_retD pe_blD)
    pss_nilD)))
end
end Dn.k08
end

section
set_option Elab.async false
set_option linter.all false
set_option maxRecDepth 100000
set_option maxHeartbeats 0
open PySem PySem.W PySem.Calls PyProof.Rows
namespace Dn.k08
open PySem PySem.Spec PyProof.Rows L2 Dn
open Dn.C (K_LETTERS K_NAME_LENGTH DK_WORDS G_is_name F_is_name G_is_deed F_is_deed G_pair_of F_pair_of G_check_deeds F_check_deeds G_format_deeds F_format_deeds G_parse_deeds F_parse_deeds G__law_box F__law_box G__law_take F__law_take G__law_pick F__law_pick G__law_mixed F__law_mixed G__law_names F__law_names G__law_world F__law_world G__law_deed F__law_deed G__law_row F__law_row G__law_spoilt F__law_spoilt G__law_is_name F__law_is_name G__law_is_deed F__law_is_deed G__law_first_irregular F__law_first_irregular)
def dd (x : Str) (i : Nat) (kws : List (Str × He.Dv)) : He.DefD := ⟨(x, none), x, x, defArgs (top i), defBody (top i), defScope (top i), [], kws⟩
def clsM (s : Stmt) (j : Nat) : Stmt := match s with
  | .ClassDef _ _ _ b _ _ _ _ _ _ _ => b.getD j (.Pass ⟨0, 0, 0, 0⟩)
  | _ => .Pass ⟨0, 0, 0, 0⟩
def di (x q : Str) (i j : Nat) : He.DefD := ⟨(x, some "__init__"), "__init__", q, defArgs (clsM (top i) j), defBody (clsM (top i) j), defScope (clsM (top i) j), [], []⟩
def fns : List He.DefD := [dd "is_name" 10 [], dd "is_deed" 13 [], dd "pair_of" 14 [], dd "check_deeds" 15 [], dd "format_deeds" 16 [], dd "parse_deeds" 17 [], dd "_law_box" 19 [], dd "_law_take" 20 [], dd "_law_pick" 21 [], dd "_law_mixed" 22 [], dd "_law_names" 23 [], dd "_law_world" 24 [], dd "_law_deed" 25 [], dd "_law_row" 26 [], dd "_law_spoilt" 27 [], dd "_law_is_name" 28 [], dd "_law_is_deed" 29 [], dd "_law_first_irregular" 30 [], dd "_law_text" 31 [], dd "_law_due" 32 [], dd "_law_told" 33 [], dd "_law_odd_text" 34 [], dd "law" 35 [], di "Irregular" "Irregular.__init__" 5 0, di "NoDeed" "NoDeed.__init__" 4 0, di "NoText" "NoText.__init__" 3 0]
def fas : List He.Fa := [.glo "is_name", .glo "is_deed", .glo "pair_of", .glo "check_deeds", .glo "format_deeds", .glo "parse_deeds", .glo "_law_box", .glo "_law_take", .glo "_law_pick", .glo "_law_mixed", .glo "_law_names", .glo "_law_world", .glo "_law_deed", .glo "_law_row", .glo "_law_spoilt", .glo "_law_is_name", .glo "_law_is_deed", .glo "_law_first_irregular", .glo "_law_text", .glo "_law_due", .glo "_law_told", .glo "_law_odd_text", .glo "law", .free "abs", .free "all", .free "enumerate", .free "int", .free "isinstance", .free "len", .free "list", .free "max", .free "min", .free "range", .free "repr", .free "str", .free "tuple", .str "LETTERS" "abcdefghijklmnopqrstuvwxyz", .int "NAME_LENGTH" 6, .glo "WORDS"] ++ cxs.map He.Fa.glo
def exs (K : PySem.W.Frag) : Bool := (kdB K (He.ga K "WORDS") DK_WORDS && (extB K cxs ["at"] crel && (baseB K "FoundError" && (exCB K "Irregular" ["at"] && (exCB K "NoDeed" ["at"] && (exCB K "NoText" ["at"] && true))))))
def tabs : List He.Tab := [(fun K => He.ga K "WORDS", ["lay", "lift", "share", "empty"])]
abbrev hk : PySem.W.Hook := hookY 6 fas fns tabs exs
def ob (s : PySem.W.SharedT) : AlY := obsY 6 fas fns tabs exs (HandSHeadRun.getT s)
theorem ob_eq (s : PySem.W.SharedT) : ob s = hk.obs s.abs := obsY_eq (HandSHeadRun.getT_eq s)
def names : List Str := (["__name__", "FoundError", "NoWord", "NoText", "NoDeed", "Irregular", "Blocked", "LETTERS", "NAME_LENGTH", "is_name", "WORDS", "is_deed", "pair_of", "check_deeds", "format_deeds", "parse_deeds", "_law_box", "_law_take", "_law_pick", "_law_mixed"] : List Str) ++ (["_law_names", "_law_world", "_law_deed", "_law_row", "_law_spoilt", "_law_is_name", "_law_is_deed", "_law_first_irregular", "_law_text", "_law_due", "_law_told", "_law_odd_text"] : List Str)
abbrev Rw : PySem.W.OpenRow := PySem.W.OpenLaw.row PySem.Challenge.rw_asfound_k08_rows_as_texts
theorem run (w : World) : HandSHeadRun.RunEq Rw (PySem.W.view Rw.prog [35]) hk ob 9000 names w :=
  PySem.W.byRow2 "special-get-raises" (P := fun w => HandSHeadRun.RunEq Rw (PySem.W.view Rw.prog [35]) hk ob 9000 names w) (fun w => by
    intro os
    kernel_rfl) (fun w => by
    intro os
    kernel_rfl) w
abbrev i_Irregular : Stmt := clsM (top 5) 0
theorem isc_Irregular : FnScope ["self", "at"] ["self", "at"] (defScope i_Irregular) := ⟨rfl, rfl, rfl, by decide +kernel, rfl, by decide +kernel, by decide +kernel⟩
theorem ex_Irregular {P : Program} {w : World} {K : PySem.W.Frag} {mg : MG} {base : Heap} {fd : FuncData} (F : FunD K "__init__" "Irregular.__init__" (defArgs i_Irregular) (defBody i_Irregular) (defScope i_Irregular) [] [] (He.fAd K ("Irregular", some "__init__")) fd) (g : mg "Irregular" = some (.ref (He.ga K "Irregular"))) (B : BaseI K mg "FoundError" (He.ga K "FoundError")) (h : exCB K "Irregular" ["at"] = true) : ExC P w K mg base 1 "Irregular" ["at"] :=
  exC1 h g (FunD.bindsN (ps := ["self", "at"]) F fun _ _ _ _ _ _ us hl => match us, hl with | [_, _], _ => rfl) (FunD.ok (k := 0) F isc_Irregular lenI1 fun cdv A outer s H vs Q E hr hsp => ⟨_, (pss_cons (ps_expr (pe_feinit B rfl (pa_cons (pe_var (i := 0) rfl (by first | exact Or.inl rfl | exact Or.inr (Or.inl rfl) | exact Or.inr (Or.inr rfl))) (pa_cons pe_str pa_nil)))) (pss_one (ps_ost (pe_var (i := 0) rfl (by first | exact Or.inl rfl | exact Or.inr (Or.inl rfl) | exact Or.inr (Or.inr rfl))) (pe_var (i := 1) rfl (by first | exact Or.inl rfl | exact Or.inr (Or.inl rfl) | exact Or.inr (Or.inr rfl)))))), rdI1 hsp⟩)
abbrev i_NoDeed : Stmt := clsM (top 4) 0
theorem isc_NoDeed : FnScope ["self", "at"] ["self", "at"] (defScope i_NoDeed) := ⟨rfl, rfl, rfl, by decide +kernel, rfl, by decide +kernel, by decide +kernel⟩
theorem ex_NoDeed {P : Program} {w : World} {K : PySem.W.Frag} {mg : MG} {base : Heap} {fd : FuncData} (F : FunD K "__init__" "NoDeed.__init__" (defArgs i_NoDeed) (defBody i_NoDeed) (defScope i_NoDeed) [] [] (He.fAd K ("NoDeed", some "__init__")) fd) (g : mg "NoDeed" = some (.ref (He.ga K "NoDeed"))) (B : BaseI K mg "FoundError" (He.ga K "FoundError")) (h : exCB K "NoDeed" ["at"] = true) : ExC P w K mg base 1 "NoDeed" ["at"] :=
  exC1 h g (FunD.bindsN (ps := ["self", "at"]) F fun _ _ _ _ _ _ us hl => match us, hl with | [_, _], _ => rfl) (FunD.ok (k := 0) F isc_NoDeed lenI1 fun cdv A outer s H vs Q E hr hsp => ⟨_, (pss_cons (ps_expr (pe_feinit B rfl (pa_cons (pe_var (i := 0) rfl (by first | exact Or.inl rfl | exact Or.inr (Or.inl rfl) | exact Or.inr (Or.inr rfl))) (pa_cons pe_str pa_nil)))) (pss_one (ps_ost (pe_var (i := 0) rfl (by first | exact Or.inl rfl | exact Or.inr (Or.inl rfl) | exact Or.inr (Or.inr rfl))) (pe_var (i := 1) rfl (by first | exact Or.inl rfl | exact Or.inr (Or.inl rfl) | exact Or.inr (Or.inr rfl)))))), rdI1 hsp⟩)
abbrev i_NoText : Stmt := clsM (top 3) 0
theorem isc_NoText : FnScope ["self", "at"] ["self", "at"] (defScope i_NoText) := ⟨rfl, rfl, rfl, by decide +kernel, rfl, by decide +kernel, by decide +kernel⟩
theorem ex_NoText {P : Program} {w : World} {K : PySem.W.Frag} {mg : MG} {base : Heap} {fd : FuncData} (F : FunD K "__init__" "NoText.__init__" (defArgs i_NoText) (defBody i_NoText) (defScope i_NoText) [] [] (He.fAd K ("NoText", some "__init__")) fd) (g : mg "NoText" = some (.ref (He.ga K "NoText"))) (B : BaseI K mg "FoundError" (He.ga K "FoundError")) (h : exCB K "NoText" ["at"] = true) : ExC P w K mg base 1 "NoText" ["at"] :=
  exC1 h g (FunD.bindsN (ps := ["self", "at"]) F fun _ _ _ _ _ _ us hl => match us, hl with | [_, _], _ => rfl) (FunD.ok (k := 0) F isc_NoText lenI1 fun cdv A outer s H vs Q E hr hsp => ⟨_, (pss_cons (ps_expr (pe_feinit B rfl (pa_cons (pe_var (i := 0) rfl (by first | exact Or.inl rfl | exact Or.inr (Or.inl rfl) | exact Or.inr (Or.inr rfl))) (pa_cons pe_str pa_nil)))) (pss_one (ps_ost (pe_var (i := 0) rfl (by first | exact Or.inl rfl | exact Or.inr (Or.inl rfl) | exact Or.inr (Or.inr rfl))) (pe_var (i := 1) rfl (by first | exact Or.inl rfl | exact Or.inr (Or.inl rfl) | exact Or.inr (Or.inr rfl)))))), rdI1 hsp⟩)
theorem facts {P : Program} {w : World} {K : PySem.W.Frag} {h : Heap} {mg : Str → Option Value} {fA : Addr} (X : K.In h) (G : h.Ns mainGlobals mg) (hfa : mg ("law" : Str) = some (.ref fA)) (ct : He.SaysT fas fns tabs w K) (ce : exs K = true) :
    ∃ fd : FuncData, (∀ (s : Shared) (v : Value), BindsTo s fd ⟨[v], []⟩ [("_law_script", v)]) ∧ ∀ base : Heap, K.In base → base.Ns mainGlobals mg → FnG P w K mg base 28 fA fd ["_law_script"] (spD (kn K) mg 1 F_law) := by
  have c := ct.d
  obtain ⟨ce0, ce⟩ := Bool.and_eq_true_iff.mp ce
  obtain ⟨ce1, ce⟩ := Bool.and_eq_true_iff.mp ce
  obtain ⟨ce2, ce⟩ := Bool.and_eq_true_iff.mp ce
  obtain ⟨ce3, ce⟩ := Bool.and_eq_true_iff.mp ce
  obtain ⟨ce4, ce⟩ := Bool.and_eq_true_iff.mp ce
  obtain ⟨ce5, ce⟩ := Bool.and_eq_true_iff.mp ce
  obtain ⟨t_LETTERS, g_LETTERS⟩ := He.str_ok X G (c.fact 36 (f := .str "LETTERS" "abcdefghijklmnopqrstuvwxyz") rfl)
  obtain ⟨t_NAME_LENGTH, g_NAME_LENGTH⟩ := He.int_ok X G (c.fact 37 (f := .int "NAME_LENGTH" 6) rfl)
  have gx : ∀ x ∈ cxs, mg x = some (.ref (He.ga K x)) := fun x hx => He.glo_ok X G (c.facts (f := .glo x) (List.mem_append_right _ (List.mem_map_of_mem hx)))
  have R : Fr w K mg := ⟨He.free_ok X G (c.fact 23 (f := .free "abs") rfl), He.free_ok X G (c.fact 24 (f := .free "all") rfl), He.free_ok X G (c.fact 25 (f := .free "enumerate") rfl), He.free_ok X G (c.fact 26 (f := .free "int") rfl), He.free_ok X G (c.fact 27 (f := .free "isinstance") rfl), He.free_ok X G (c.fact 28 (f := .free "len") rfl), He.free_ok X G (c.fact 29 (f := .free "list") rfl), He.free_ok X G (c.fact 30 (f := .free "max") rfl), He.free_ok X G (c.fact 31 (f := .free "min") rfl), He.free_ok X G (c.fact 32 (f := .free "range") rfl), He.free_ok X G (c.fact 33 (f := .free "repr") rfl), He.free_ok X G (c.fact 34 (f := .free "str") rfl), He.free_ok X G (c.fact 35 (f := .free "tuple") rfl), ⟨V.str "abcdefghijklmnopqrstuvwxyz", _, g_LETTERS, ⟨t_LETTERS, rfl⟩, fun F => .str _⟩, ⟨V.int 6, _, g_NAME_LENGTH, ⟨t_NAME_LENGTH, rfl⟩, fun F => .int _⟩, kdB_ok (He.glo_ok X G (c.fact 38 (f := .glo "WORDS") rfl)) (ct.tab 0 (t := (fun K => He.ga K "WORDS", ["lay", "lift", "share", "empty"])) rfl) ce0 (by decide +kernel), extB_ok ce1 gx⟩
  have B_FoundError := baseB_ok (gx "FoundError" m_FoundError) ce2
  obtain ⟨fdi_Irregular, DI_Irregular⟩ := c.def_ 23 (d := di "Irregular" "Irregular.__init__" 5 0) rfl
  obtain ⟨fdi_NoDeed, DI_NoDeed⟩ := c.def_ 24 (d := di "NoDeed" "NoDeed.__init__" 4 0) rfl
  obtain ⟨fdi_NoText, DI_NoText⟩ := c.def_ 25 (d := di "NoText" "NoText.__init__" 3 0) rfl
  refine (?_ : ∃ fd : FuncData, _)
  obtain ⟨fd_is_name, D_is_name⟩ := c.def_ 0 (d := dd "is_name" 10 []) rfl
  obtain ⟨fd_is_deed, D_is_deed⟩ := c.def_ 1 (d := dd "is_deed" 13 []) rfl
  obtain ⟨fd_pair_of, D_pair_of⟩ := c.def_ 2 (d := dd "pair_of" 14 []) rfl
  obtain ⟨fd_check_deeds, D_check_deeds⟩ := c.def_ 3 (d := dd "check_deeds" 15 []) rfl
  obtain ⟨fd_format_deeds, D_format_deeds⟩ := c.def_ 4 (d := dd "format_deeds" 16 []) rfl
  obtain ⟨fd_parse_deeds, D_parse_deeds⟩ := c.def_ 5 (d := dd "parse_deeds" 17 []) rfl
  obtain ⟨fd__law_box, D__law_box⟩ := c.def_ 6 (d := dd "_law_box" 19 []) rfl
  obtain ⟨fd__law_take, D__law_take⟩ := c.def_ 7 (d := dd "_law_take" 20 []) rfl
  obtain ⟨fd__law_pick, D__law_pick⟩ := c.def_ 8 (d := dd "_law_pick" 21 []) rfl
  obtain ⟨fd__law_mixed, D__law_mixed⟩ := c.def_ 9 (d := dd "_law_mixed" 22 []) rfl
  obtain ⟨fd__law_names, D__law_names⟩ := c.def_ 10 (d := dd "_law_names" 23 []) rfl
  obtain ⟨fd__law_world, D__law_world⟩ := c.def_ 11 (d := dd "_law_world" 24 []) rfl
  obtain ⟨fd__law_deed, D__law_deed⟩ := c.def_ 12 (d := dd "_law_deed" 25 []) rfl
  obtain ⟨fd__law_row, D__law_row⟩ := c.def_ 13 (d := dd "_law_row" 26 []) rfl
  obtain ⟨fd__law_spoilt, D__law_spoilt⟩ := c.def_ 14 (d := dd "_law_spoilt" 27 []) rfl
  obtain ⟨fd__law_is_name, D__law_is_name⟩ := c.def_ 15 (d := dd "_law_is_name" 28 []) rfl
  obtain ⟨fd__law_is_deed, D__law_is_deed⟩ := c.def_ 16 (d := dd "_law_is_deed" 29 []) rfl
  obtain ⟨fd__law_first_irregular, D__law_first_irregular⟩ := c.def_ 17 (d := dd "_law_first_irregular" 30 []) rfl
  obtain ⟨fd__law_text, D__law_text⟩ := c.def_ 18 (d := dd "_law_text" 31 []) rfl
  obtain ⟨fd__law_due, D__law_due⟩ := c.def_ 19 (d := dd "_law_due" 32 []) rfl
  obtain ⟨fd__law_told, D__law_told⟩ := c.def_ 20 (d := dd "_law_told" 33 []) rfl
  obtain ⟨fd__law_odd_text, D__law_odd_text⟩ := c.def_ 21 (d := dd "_law_odd_text" 34 []) rfl
  obtain ⟨fd_law, D_law⟩ := c.def_ 22 (d := dd "law" 35 []) rfl
  have g_is_name := He.glo_ok X G (c.fact 0 (f := .glo "is_name") rfl)
  have g_is_deed := He.glo_ok X G (c.fact 1 (f := .glo "is_deed") rfl)
  have g_pair_of := He.glo_ok X G (c.fact 2 (f := .glo "pair_of") rfl)
  have g_check_deeds := He.glo_ok X G (c.fact 3 (f := .glo "check_deeds") rfl)
  have g_format_deeds := He.glo_ok X G (c.fact 4 (f := .glo "format_deeds") rfl)
  have g_parse_deeds := He.glo_ok X G (c.fact 5 (f := .glo "parse_deeds") rfl)
  have g__law_box := He.glo_ok X G (c.fact 6 (f := .glo "_law_box") rfl)
  have g__law_take := He.glo_ok X G (c.fact 7 (f := .glo "_law_take") rfl)
  have g__law_pick := He.glo_ok X G (c.fact 8 (f := .glo "_law_pick") rfl)
  have g__law_mixed := He.glo_ok X G (c.fact 9 (f := .glo "_law_mixed") rfl)
  have g__law_names := He.glo_ok X G (c.fact 10 (f := .glo "_law_names") rfl)
  have g__law_world := He.glo_ok X G (c.fact 11 (f := .glo "_law_world") rfl)
  have g__law_deed := He.glo_ok X G (c.fact 12 (f := .glo "_law_deed") rfl)
  have g__law_row := He.glo_ok X G (c.fact 13 (f := .glo "_law_row") rfl)
  have g__law_spoilt := He.glo_ok X G (c.fact 14 (f := .glo "_law_spoilt") rfl)
  have g__law_is_name := He.glo_ok X G (c.fact 15 (f := .glo "_law_is_name") rfl)
  have g__law_is_deed := He.glo_ok X G (c.fact 16 (f := .glo "_law_is_deed") rfl)
  have g__law_first_irregular := He.glo_ok X G (c.fact 17 (f := .glo "_law_first_irregular") rfl)
  have g__law_text := He.glo_ok X G (c.fact 18 (f := .glo "_law_text") rfl)
  have g__law_due := He.glo_ok X G (c.fact 19 (f := .glo "_law_due") rfl)
  have g__law_told := He.glo_ok X G (c.fact 20 (f := .glo "_law_told") rfl)
  have g__law_odd_text := He.glo_ok X G (c.fact 21 (f := .glo "_law_odd_text") rfl)
  have g_law := He.glo_ok X G (c.fact 22 (f := .glo "law") rfl)
  have e := hfa.symm.trans g_law
  cases e
  refine ⟨fd_law, fun s v => (FunD.bindsA (ps := ["_law_script"]) D_law fun _ _ _ _ _ _ us hl => match us, hl with | [_], _ => rfl) s [v] rfl, fun base _ _ => ?_⟩
  have e_Irregular : ExC P w K mg base 1 "Irregular" ["at"] := ex_Irregular DI_Irregular (gx "Irregular" m_Irregular) B_FoundError ce3
  have e_NoDeed : ExC P w K mg base 1 "NoDeed" ["at"] := ex_NoDeed DI_NoDeed (gx "NoDeed" m_NoDeed) B_FoundError ce4
  have e_NoText : ExC P w K mg base 1 "NoText" ["at"] := ex_NoText DI_NoText (gx "NoText" m_NoText) B_FoundError ce5
  have h_is_name : Has P w K mg base 1 "is_name" ["value"] 1 F_is_name := ok_is_name (k := 0) D_is_name g_is_name R 
  have h_is_deed : Has P w K mg base 2 "is_deed" ["value"] 1 F_is_deed := ok_is_deed (k := 1) D_is_deed g_is_deed R (h_is_name.mono (by decide))
  have h_pair_of : Has P w K mg base 1 "pair_of" ["deed"] 1 F_pair_of := ok_pair_of (k := 0) D_pair_of g_pair_of R 
  have h_check_deeds : Has P w K mg base 3 "check_deeds" ["value"] 1 F_check_deeds := ok_check_deeds (k := 2) D_check_deeds g_check_deeds R (h_pair_of.mono (by decide)) (h_is_deed.mono (by decide)) e_NoDeed e_Irregular (by decide)
  have h_format_deeds : Has P w K mg base 1 "format_deeds" ["deeds"] 1 F_format_deeds := ok_format_deeds (k := 0) D_format_deeds g_format_deeds R 
  have h_parse_deeds : Has P w K mg base 4 "parse_deeds" ["text"] 1 F_parse_deeds := ok_parse_deeds (k := 3) D_parse_deeds g_parse_deeds R (h_check_deeds.mono (by decide)) (h_is_deed.mono (by decide)) e_NoText (by decide)
  have h__law_box : Has P w K mg base 1 "_law_box" ["_law_script", "_law_k"] 2 F__law_box := ok__law_box (k := 0) D__law_box g__law_box R 
  have h__law_take : Has P w K mg base 1 "_law_take" ["_law_box_here", "_law_many"] 2 F__law_take := ok__law_take (k := 0) D__law_take g__law_take R 
  have h__law_pick : Has P w K mg base 2 "_law_pick" ["_law_box_here", "_law_items"] 2 F__law_pick := ok__law_pick (k := 1) D__law_pick g__law_pick R (h__law_take.mono (by decide))
  have h__law_mixed : Has P w K mg base 2 "_law_mixed" ["_law_box_here", "_law_items"] 2 F__law_mixed := ok__law_mixed (k := 1) D__law_mixed g__law_mixed R (h__law_take.mono (by decide))
  have h__law_names : Has P w K mg base 3 "_law_names" ["_law_box_here", "_law_many"] 2 F__law_names := ok__law_names (k := 2) D__law_names g__law_names R (h__law_mixed.mono (by decide)) (h__law_take.mono (by decide))
  have h__law_world : Has P w K mg base 4 "_law_world" ["_law_box_here", "_law_most_hands", "_law_most_slots"] 3 F__law_world := ok__law_world (k := 3) D__law_world g__law_world R (h__law_names.mono (by decide)) (h__law_take.mono (by decide))
  have h__law_deed : Has P w K mg base 3 "_law_deed" ["_law_box_here", "_law_world_here", "_law_states"] 3 F__law_deed := ok__law_deed (k := 2) D__law_deed g__law_deed R (h__law_pick.mono (by decide)) (h__law_take.mono (by decide))
  have h__law_row : Has P w K mg base 4 "_law_row" ["_law_box_here", "_law_world_here", "_law_many"] 3 F__law_row := ok__law_row (k := 3) D__law_row g__law_row R (h__law_take.mono (by decide)) (h__law_deed.mono (by decide))
  have h__law_spoilt : Has P w K mg base 26 "_law_spoilt" ["_law_box_here", "_law_value", "_law_items"] 3 (F__law_spoilt 24) := ok__law_spoilt (k := 2) D__law_spoilt g__law_spoilt R (h__law_pick.mono (by decide)) (h__law_take.mono (by decide)) 24
  have h__law_is_name : Has P w K mg base 1 "_law_is_name" ["_law_value"] 1 F__law_is_name := ok__law_is_name (k := 0) D__law_is_name g__law_is_name R 
  have h__law_is_deed : Has P w K mg base 2 "_law_is_deed" ["_law_value"] 1 F__law_is_deed := ok__law_is_deed (k := 1) D__law_is_deed g__law_is_deed R (h__law_is_name.mono (by decide))
  have h__law_first_irregular : Has P w K mg base 1 "_law_first_irregular" ["_law_row_here"] 1 F__law_first_irregular := ok__law_first_irregular (k := 0) D__law_first_irregular g__law_first_irregular R 
  have h__law_text : Has P w K mg base 1 "_law_text" ["_law_row_here"] 1 F__law_text := ok__law_text (k := 0) D__law_text g__law_text R 
  have h__law_due : Has P w K mg base 3 "_law_due" ["_law_text_here"] 1 F__law_due := ok__law_due (k := 2) D__law_due g__law_due R (h__law_first_irregular.mono (by decide)) (h__law_is_deed.mono (by decide))
  have h__law_told : Has P w K mg base 5 "_law_told" ["_law_text_here"] 1 F__law_told := ok__law_told (k := 4) D__law_told g__law_told R (h_parse_deeds.mono (by decide))
  have h__law_odd_text : Has P w K mg base 27 "_law_odd_text" ["_law_box_here", "_law_row_here"] 2 F__law_odd_text := ok__law_odd_text (k := 26) D__law_odd_text g__law_odd_text R (h__law_take.mono (by decide)) (h__law_spoilt.mono (by decide)) (h__law_text.mono (by decide))
  exact okG_law (k := 27) D_law g_law R (h__law_box.mono (by decide)) (h__law_row.mono (by decide)) (h__law_world.mono (by decide)) (h__law_told.mono (by decide)) (h__law_take.mono (by decide)) (h__law_text.mono (by decide)) (h__law_odd_text.mono (by decide)) (h__law_due.mono (by decide)) (h_format_deeds.mono (by decide)) (h_parse_deeds.mono (by decide))
theorem has_law (pure : ∀ ns : List Int, ns.length ≤ 63 → ∃ outs, F_law [.d (.src ns)] = some (.ok (.d (.bl true)), outs)) : PySem.Challenge.rw_asfound_k08_rows_as_texts.Holds := by
  w_on; o_law
  refine HandSHeadRun.head_any (r := Rw) (q := PySem.W.view Rw.prog [35]) (H := hk) (ob := ob) (M := 9000) (loose := names) (d := HandSHeadRun.topDef Rw.prog 35) (kwd := []) ob_eq
    (by kernel_rfl) (fun s => by kernel_rfl) run (by kernel_rfl) (by kernel_rfl) (by kernel_rfl) (by rfl) (by first | assumption | decide +kernel) (by decide +kernel) ⟨rfl, rfl, rfl, rfl, rfl, by decide +kernel⟩ ?hw ?hc
  case hw => w_witness2
  case hc =>
    refine walk_G (l := PySem.Challenge.rw_asfound_k08_rows_as_texts) (n := 63) (k := 28) (x := "_law_script") rfl (by decide) (by kernel_rfl) ⟨rfl, by decide, by decide⟩ ?F
    intro w mg fa h Y G hmg0
    obtain ⟨K, KX, c⟩ := Y
    have hmg : mg ("law" : PySem.Str) = some (.ref fa) := by
      have e : (HandSHeadRun.topDef Rw.prog 35).name = ("law" : PySem.Str) := by kernel_rfl
      rw [← e]
      exact hmg0
    obtain ⟨fd, hb, hF⟩ := facts (P := (PySem.Challenge.rw_asfound_k08_rows_as_texts).prog) (w := w) KX G hmg c.t c.more
    exact ⟨K, fd, spD (kn K) mg 1 F_law, KX, hb, fun H a ns hl _ hS => (pure ns hl).elim fun outs e => entry hS e, hF⟩
end Dn.k08
end
open PySem PySem.W PySem.Calls PyProof.Rows
theorem PySem.Challenge.cw_asfound_k08_rows_as_texts_holds : PySem.Challenge.rw_asfound_k08_rows_as_texts.Holds := by
  exact Dn.k08.has_law fun ns h => Dn.k08.law_w h
