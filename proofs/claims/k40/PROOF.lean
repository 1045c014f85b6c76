import PyProof.Rows.All
import Wide.All
import OpenK.AllK
import Wide.FinOn
import HandS.ForMost
import HandS.ForExc
import HandS.TupAny
import HandS.Wide
import HandS.IsInst
import HandS.TryMany
import HandS.ExcOwn
import HandS.More
import HandS.Small
import HandS.ClsMeth
import KE.KExcInit
import HandS.ExcInit
import HandS.RaiseFrom
import HandS.RaiseOp
import HandS.ExcInitHot
import HandS.ExcBuiltin
import HandS.Codes
import HandS.ExcIs
import HandS.Style
import HandS.Zip
import HandS.Walk
import HandS.Lambda
import HandS.Sort
import HandS.Replace
import KE.GoesNew
import KE.LtData
import HandS.Defaults
import HandS.MakeKw
import PyProof.Draws
import KE.KDictWalk
import KE.GoesEnum
import PyProof.EnumFor
import HandS.Iter
import KE.SortKeyHeap
import PyProof.StrOps2
import HandS.SortKw
import HandS.DictEq
import KE.DataEq
import HandS.Dict
import HandS.ListItems
import KE.KDictList
import PyProof.DictValues
import HandS.OwnEq
import HandS.Finally
import HandS.Nested
import KE.KDictZip
import HandS.EndTab
import KE.KNestM
import HandS.CallLocal
import HandS.HeadHook3
import HandS.Rev
import PyProof.ListRange
import OpenK.KOps
import HandS.ReplaceList
import HandS.Conv
import HandS.RevRange
import HandS.SuiteRaise
import PySem.Challenge.RW_manycustoms_k40_modes_of_words
set_option Elab.async false
set_option linter.all false
set_option maxRecDepth 100000
set_option maxHeartbeats 1000000
namespace Gk
open PySem PySem.Spec PyProof.Rows L2
inductive T where
  | non | bl (b : Bool) | int (i : Int) | str (s : Str)
  | lst (ts : List T) | tup (ts : List T) | dct (ks : List Key) (ts : List T)
  | ins (C : Addr) (fs : List Str) (ts : List T)
  | opq (v : V)
  | sqi (ns : List Int)
  | obj (o : HO)
mutual
inductive Tr (K : PySem.W.Frag) (F : Hp) : V → T → Prop
  | non : Tr K F .non .non
  | bl (b : Bool) : Tr K F (.bl b) (.bl b)
  | int (i : Int) : Tr K F (.int i) (.int i)
  | str (s : Str) : Tr K F (.str s) (.str s)
  | opq (v : V) : Tr K F v (.opq v)
  | obj {a : Addr} (o : HO) : F a = some o → Tr K F (.ref a) (.obj o)
  | sqi {a : Addr} (ns : List Int) : SqL K F a (ns.map .int) → Tr K F (.ref a) (.sqi ns)
  | lst {a : Addr} {xs : List V} {ts : List T} : F a = some (.lst xs) → TrA K F xs ts → Tr K F (.ref a) (.lst ts)
  | tup {a : Addr} {xs : List V} {ts : List T} : F a = some (.tup xs) → TrA K F xs ts → Tr K F (.ref a) (.tup ts)
  | dct {a : Addr} {kvs : List (Key × V)} {ks : List Key} {ts : List T} : F a = some (.dK kvs) → kvs.map (·.1) = ks → TrA K F (kvs.map (·.2)) ts → Tr K F (.ref a) (.dct ks ts)
  | ins {a C dx : Addr} {fs : List (Str × V)} {ns : List Str} {ts : List T} : F a = some (.ins C dx fs) → fs.map (·.1) = ns → TrA K F (fs.map (·.2)) ts → Tr K F (.ref a) (.ins C ns ts)
inductive TrA (K : PySem.W.Frag) (F : Hp) : List V → List T → Prop
  | nil : TrA K F [] []
  | cons {v : V} {vs : List V} {t : T} {ts : List T} : Tr K F v t → TrA K F vs ts → TrA K F (v :: vs) (t :: ts)
end
section
variable {K : PySem.W.Frag} {F F' H H' : Hp}
theorem same_seqT {a : Addr} {xs : List V} (e : Same F F') (h : SqT K F a xs) : SqT K F' a xs := by
  rcases h with h | h
  · rcases h with h | ⟨o, h⟩
    · exact .inl (.inl (e _ _ h))
    · exact .inl (.inr ⟨o, e _ _ h⟩)
  · exact .inr h
mutual
theorem Tr.mono (e : Same F F') : ∀ {v : V} {t : T}, Tr K F v t → Tr K F' v t
  | _, _, .non => .non
  | _, _, .bl b => .bl b
  | _, _, .int i => .int i
  | _, _, .str s => .str s
  | _, _, .opq v => .opq v
  | _, _, .sqi ns h => .sqi ns (e.seq h)
  | _, _, .obj o h => .obj o (e _ _ h)
  | _, _, .lst h a => .lst (e _ _ h) (TrA.mono e a)
  | _, _, .tup h a => .tup (e _ _ h) (TrA.mono e a)
  | _, _, .dct h k a => .dct (e _ _ h) k (TrA.mono e a)
  | _, _, .ins h k a => .ins (e _ _ h) k (TrA.mono e a)
theorem TrA.mono (e : Same F F') : ∀ {vs : List V} {ts : List T}, TrA K F vs ts → TrA K F' vs ts
  | _, _, .nil => .nil
  | _, _, .cons h a => .cons (Tr.mono e h) (TrA.mono e a)
end
theorem TrA.length : ∀ {vs : List V} {ts : List T}, TrA K F vs ts → vs.length = ts.length
  | _, _, .nil => rfl
  | _, _, .cons _ a => congrArg (· + 1) (TrA.length a)
theorem TrA.get : ∀ {vs : List V} {ts : List T} {i : Nat} {t : T}, TrA K F vs ts → ts[i]? = some t → ∃ v, vs[i]? = some v ∧ Tr K F v t
  | _, _, _, _, .nil, e => by simp at e
  | _, _, 0, _, .cons h _, e => by simp at e; subst e; exact ⟨_, rfl, h⟩
  | _, _, i + 1, _, .cons _ a, e => by
    obtain ⟨v, h1, h2⟩ := TrA.get (i := i) a (by simpa using e)
    exact ⟨v, by simpa using h1, h2⟩
theorem TrA.app : ∀ {vs ws : List V} {ts us : List T}, TrA K F vs ts → TrA K F ws us → TrA K F (vs ++ ws) (ts ++ us)
  | _, _, _, _, .nil, h => h
  | _, _, _, _, .cons h a, b => .cons h (TrA.app a b)
theorem TrA.take : ∀ {vs : List V} {ts : List T} (n : Nat), TrA K F vs ts → TrA K F (vs.take n) (ts.take n)
  | _, _, 0, _ => .nil
  | _, _, _ + 1, .nil => .nil
  | _, _, n + 1, .cons h a => .cons h (TrA.take n a)
theorem TrA.drop : ∀ {vs : List V} {ts : List T} (n : Nat), TrA K F vs ts → TrA K F (vs.drop n) (ts.drop n)
  | _, _, 0, h => h
  | _, _, _ + 1, .nil => .nil
  | _, _, n + 1, .cons _ a => TrA.drop n a
theorem TrA.set {v : V} {t : T} (h : Tr K F v t) : ∀ {vs : List V} {ts : List T} (n : Nat), TrA K F vs ts → TrA K F (vs.set n v) (ts.set n t)
  | _, _, _, .nil => .nil
  | _, _, 0, .cons _ a => .cons h a
  | _, _, n + 1, .cons g a => .cons g (TrA.set h n a)
theorem TrA.of_ints : ∀ {ss : List Int}, TrA K F (ss.map .int) (ss.map .int)
  | [] => .nil
  | s :: _ => .cons (.int s) TrA.of_ints
end
noncomputable abbrev Cell := Addr × HO
structure S (K : PySem.W.Frag) (H : Hp) (L : List Cell) (R : List (List V × List T)) : Prop where
  ex : ∃ F : Hp, Same F H ∧ (∀ c ∈ L, H c.1 = some c.2 ∧ F c.1 = none) ∧ (L.map (·.1)).Nodup ∧ ∀ r ∈ R, TrA K F r.1 r.2
section
variable {K : PySem.W.Frag} {H : Hp} {L L1 L2 : List Cell} {R R1 : List (List V × List T)} {p a : Addr} {o o' : HO}
theorem S.start : S K H [] [] := ⟨⟨fun _ => none, fun _ _ e => (nomatch e), fun _ h => (nomatch h), List.nodup_nil, fun _ h => (nomatch h)⟩⟩
/-- a new object -/
theorem S.new (s : S K H L R) (n : H p = none) (o : HO) : S K (upd H p o) ((p, o) :: L) R := by
  obtain ⟨F, sm, ce, nd, tr⟩ := s
  have fp : F p = none := sm.free n
  refine ⟨F, fun b u e => ?_, fun c hc => ?_, ?_, tr⟩
  · rw [upd_ne (ne_of_none (sm b u e) n)]; exact sm b u e
  · rcases List.mem_cons.mp hc with rfl | hc
    · exact ⟨upd_same, fp⟩
    · obtain ⟨h1, h2⟩ := ce c hc
      exact ⟨by rw [upd_ne (ne_of_none h1 n)]; exact h1, h2⟩
  · rw [List.map_cons, List.nodup_cons]
    refine ⟨fun hm => ?_, nd⟩
    obtain ⟨c, hc, e⟩ := List.mem_map.mp hm
    have := (ce c hc).1
    rw [e] at this
    have n' : H p = none := n
    rw [n'] at this; cases this
theorem S.cell (s : S K H ((a, o) :: L) R) : H a = some o := by
  obtain ⟨F, sm, ce, nd, tr⟩ := s
  exact (ce _ List.mem_cons_self).1
theorem S.sub (s : S K H L R) (h : L1.Sublist L) : S K H L1 R := by
  obtain ⟨F, sm, ce, nd, tr⟩ := s
  exact ⟨F, sm, fun c hc => ce c (h.subset hc), (h.map _).nodup nd, tr⟩
theorem S.perm (s : S K H L R) (h : L1.Perm L) : S K H L1 R := by
  obtain ⟨F, sm, ce, nd, tr⟩ := s
  exact ⟨F, sm, fun c hc => ce c (h.subset hc), (h.map (·.1)).nodup_iff.mpr nd, tr⟩
theorem S.drop (s : S K H ((a, o) :: L) R) : S K H L R := s.sub (List.sublist_cons_self _ _)
/-- our cell changed -/
theorem S.put (s : S K H ((a, o) :: L) R) (o' : HO) : S K (upd H a o') ((a, o') :: L) R := by
  obtain ⟨F, sm, ce, nd, tr⟩ := s
  have fa : F a = none := (ce _ List.mem_cons_self).2
  rw [List.map_cons, List.nodup_cons] at nd
  refine ⟨F, fun b u e => ?_, fun c hc => ?_, by rw [List.map_cons, List.nodup_cons]; exact nd, tr⟩
  · have hb : b ≠ a := fun z => by rw [z, fa] at e; cases e
    rw [upd_ne hb]; exact sm b u e
  · rcases List.mem_cons.mp hc with rfl | hc
    · exact ⟨upd_same, fa⟩
    · obtain ⟨h1, h2⟩ := ce c (List.mem_cons_of_mem _ hc)
      refine ⟨?_, h2⟩
      have hb : c.1 ≠ a := fun z => nd.1 (List.mem_map.mpr ⟨c, hc, z⟩)
      rw [upd_ne hb]; exact h1
/-- any cell frozen, opaque: nothing is told of it -/
theorem S.add {vs : List V} {ts : List T} (s : S K H L R) (h : ∀ F : Hp, (∀ r ∈ R, TrA K F r.1 r.2) → TrA K F vs ts) : S K H L ((vs, ts) :: R) := by
  obtain ⟨F, sm, ce, nd, tr⟩ := s
  refine ⟨F, sm, ce, nd, fun r hr => ?_⟩
  rcases List.mem_cons.mp hr with rfl | hr
  · exact h F tr
  · exact tr r hr
end
end Gk
set_option maxRecDepth 100000
set_option maxHeartbeats 1000000
namespace Gk
open PySem PySem.Spec PyProof.Rows L2
structure Rm (k : Nat) (A : Around) : Prop where
  g : A.guards = some []
  r : Room k A
theorem Rm.mono {j k : Nat} {A : Around} (h : Rm k A) (l : j ≤ k) : Rm j A := ⟨h.g, h.r.mono l⟩
structure FnG (P : Program) (w : World) (K : PySem.W.Frag) (mg : Str → Option Value) (base : Heap) (k : Nat) (f : Addr) (fd : FuncData) (ps : List Str) (sp : Sp) : Prop where
  len : ∀ vs H Q E, sp vs H Q E → vs.length = ps.length
  run : ∀ (A : Around) (out : List Env) (s : Shared) (H : Hp) (ar : Args) (us : List Value) (vs : List V) (Q : VK) (E : XK),
    Rm k A → Env0 P w K mg base A out s H → BindsTo s fd ar (ps.zip us) → Vals vs us → sp vs H Q E →
      codeAny (model P w) A (.call (.ref f) ar) (CR (L2.CX P w) out P w H s Q E) s
section
variable {P : Program} {w : World} {K : PySem.W.Frag} {mg : Str → Option Value} {base : Heap} {j k : Nat} {f : Addr} {fd : FuncData} {ps : List Str} {sp sp' : Sp}
theorem FnG.mono (F : FnG P w K mg base j f fd ps sp) (h : j ≤ k) : FnG P w K mg base k f fd ps sp :=
  ⟨F.len, fun A o s H a us vs Q E rm => F.run A o s H a us vs Q E (rm.mono h)⟩
theorem FnG.imp (F : FnG P w K mg base k f fd ps sp) (h : ∀ vs H Q E, sp' vs H Q E → sp vs H Q E) : FnG P w K mg base k f fd ps sp' :=
  ⟨fun vs H Q E q => F.len vs H Q E (h _ _ _ _ q), fun A o s H a us vs Q E rm e b v q => F.run A o s H a us vs Q E rm e b v (h _ _ _ _ q)⟩
/-- the context of a def's body -/
noncomputable abbrev cxG (P : Program) (w : World) (K : PySem.W.Frag) (mg : Str → Option Value) (base : Heap) (N : List Str) (qual : Str) (scope : Scope) (f : Addr) (cd : Value) (A : Around) (out : List Env) (s : Shared) (H : Hp) (E : XK) : Cx :=
  cxOf (L2.CX P w) P w K mg base N qual scope f cd A out s H E
theorem Fun.okG {x qual : Str} {st : Stmt} {N : List Str} (F : L2.Fun K x qual st f fd) (S : FnScope N ps (defScope st)) (len : ∀ vs H Q E, sp vs H Q E → vs.length = ps.length)
    (hb : ∀ (cd : Value) (A : Around) (out : List Env) (s : Shared) (H : Hp) (vs : List V) (Q : VK) (E : XK), Rm k (A.deeper (envOfC qual (defScope st) s.heap.objs.size f cd)) → sp vs H Q E →
      ∃ t, PSs (cxG P w K mg base N qual (defScope st) f cd A out s H E) (defBody st) t ∧ t { nx := fun _ H' => Q .non H', rt := Q } (start N vs) H) :
    FnG P w K mg base (k + 1) f fd ps sp := by
  obtain ⟨oc, od, kV, dc, pm, an, cd, ct, osl, e0, lk, hc⟩ := F.ex
  subst e0
  constructor
  · exact len
  intro A out s H ar us vs Q E rm e b rv hs
  have there : K.In s.heap := e.mod.kin.keeps (fun b' o' z => (e.bs b' o' z).1)
  have nolim : s.heap.NoLimit := e.mod.nolimit.keeps (fun b' o' z => (e.bs b' o' z).1)
  have nms : ∀ y ∈ ps.zip us, (defScope st).names.lookup y.1 = some .local ∨ ((defScope st).names.lookup y.1 = some .cell ∧ ((cellsFrom (s.heap.objs.size + 1) (defScope st).names []).lookup y.1).isSome = true) := by
    rintro ⟨n, v⟩ hy
    cases S.par n (List.of_mem_zip hy).1 with
    | inl q => exact Or.inl q
    | inr q => exact Or.inr ⟨q, PySem.W.cellsFrom_some _ _ _ (Or.inl q)⟩
  refine codeAny_call_function rm.r.depth (there _ _ lk) rfl S.co S.gen rfl (PySem.W.codeRec_of there hc) (b _ _ _ _ ?_)
  refine wpAny_newFunctionEnv_cells S.kind nms fun env ee s1 ic => ?_
  subst ee
  refine ⟨nolim.keeps ic.toInCall.keep, codeAny_func ?_⟩
  obtain ⟨t, pt, q⟩ := hb cd A out s H vs Q E ⟨rm.g, rm.r.deeper _⟩ hs
  have I : Inv (cxG P w K mg base N qual (defScope st) f cd A out s H E) [] (start N vs) H s1 := inv_start S rm.r.hd e (len _ _ _ _ hs) rv ic
  refine wpAny_mono (pt.run [] s1 (start N vs) H _ I q) (fun fl s' hf => ?_) (fun e' s' h' => h')
  have fin : ∀ {σ' : L2.St} {H' : Hp} {v : V} {u : Value}, Inv (cxG P w K mg base N qual (defScope st) f cd A out s H E) [] σ' H' s' → RelV v u → Q v H' → CE out P w H s Q u s' := by
    intro σ' H' v u J r' q'
    exact ⟨v, H', J.os, J.bare, J.base, J.hok, r', q'⟩
  cases fl with
  | next =>
    obtain ⟨σ', H', J, q'⟩ := hf
    exact fin (v := .non) (u := .none) J rfl q'
  | ret u =>
    obtain ⟨v, σ', H', J, r', q'⟩ := hf
    exact fin J r' q'
  | brk => obtain ⟨_, _, _, z⟩ := hf; exact z.elim
  | cont => obtain ⟨_, _, _, z⟩ := hf; exact z.elim
end
section
variable {X : Cx} {k : Nat} {f C : Addr} {fd : FuncData} {ps ks : List Str} {sp : Sp} {dvs : List V} {ds : List Value} {W : WX} {x m : Str} {p pos apos : Pos} {e o : Expr} {es : List Expr} {kws : List Keyword} {ta : TE} {t tk' : TA}
noncomputable abbrev FnX (X : Cx) (k : Nat) (f : Addr) (fd : FuncData) (ps : List Str) (sp : Sp) : Prop := FnG X.prog X.w X.K X.mg X.base k f fd ps sp
theorem run_g {pins : List (Addr × Obj)} {σ : L2.St} {H : Hp} {s : Shared} {Q : VK} {E : XK} {ar : Args} {us : List Value} {vs : List V} (F : FnX X k f fd ps sp) (rm : Rm k X.A) (tk : Takes X W) (b : BindsTo s fd ar (ps.zip us))
    (hE : ∀ c d H', E c d H' → W c d σ H') (I : Inv X pins σ H s) (r : Vals vs us) (h : sp vs H Q E) :
    codeAny (model X.prog X.w) X.A (.call (.ref f) ar) (fun r s' => match r with
      | .ok (.ret u) => EP X pins σ Q u s'
      | .ok _ => False
      | .error e => X.xe e s') s := by
  refine codeAny_mono (F.run X.A X.stack s H ar us vs Q E rm I.env0 b r h) fun r s' q => ?_
  rcases r with e' | fl
  · exact tk e' s' (XE.of_call I hE q)
  · rcases fl with _ | _ | _ | u
    · exact False.elim q
    · exact False.elim q
    · exact False.elim q
    · exact I.after q
/-- f(..): the written arguments, then the defaults -/
noncomputable def tG (sp : Sp) (dvs : List V) (W : WX) (t : TA) : TE := fun σ H Q => t σ H fun vs H1 => sp (vs ++ dvs) H1 Q (fun c d H' => W c d σ H')
theorem run_gp {pins : List (Addr × Obj)} {σ : L2.St} {H : Hp} {s : Shared} {Q : VK} {us : List Value} {vs : List V} (F : FnX X k f fd ps sp) (rm : Rm k X.A) (tk : Takes X W) (hb : L2.Binds X.K fd ps ds) (hd : Vals dvs ds)
    (I : Inv X pins σ H s) (r : Vals vs us) (h : sp (vs ++ dvs) H Q (fun c d H' => W c d σ H')) : wpAny (model X.prog X.w) X.A (call (.ref f) us) (EP X pins σ Q) X.xe s := by
  have r2 : Vals (vs ++ dvs) (us ++ ds) := r.append hd
  have hl : (us ++ ds).length = ps.length := r2.length.symm.trans (F.len _ _ _ _ h)
  refine wpAny_call (codeAny_mono (run_g F rm tk (hb s us I.kIn hl) (fun _ _ _ z => z) I r2 h) fun r s' q => ?_)
  rcases r with e' | fl
  · exact q
  · rcases fl with _ | _ | _ | u
    · exact False.elim q
    · exact False.elim q
    · exact False.elim q
    · exact q
theorem pe_g (F : FnX X k f fd ps sp) (rm : Rm k X.A) (tk : Takes X W) (hm : X.mg x = some (.ref f)) (kp : PySem.W.keepIn X.K (.ref f) = true) (hb : L2.Binds X.K fd ps ds) (hd : Vals dvs ds) (ha : PA X (e :: es) t)
    (hg : Gl X x := by rfl) (hdb : (x == ("__debug__" : Str)) = false := by decide) (he : starEach (e :: es) X.env = (false, eval e X.env) :: starEach es X.env := by rfl) (hpl : (backTo pos (starEach es X.env)).any (·.1) = false := by rfl) :
    PE X (.Call (.Name x p) (e :: es) [] pos) (tG sp dvs W t) := by
  constructor
  intro pins s σ H Q I h
  refine wpAny_Call_Name_kw (ld_glob I hg hm ?_ hdb)
  refine PySem.W.callWith_K (h₀ := X.base) I.ok.mod.kin kp (thn (ha.run pos pins s σ H _ I h) ?_) he hpl
  rintro us s1 ⟨vs, H1, I1, r, q⟩
  exact ⟨I1.kIn, run_gp F rm tk hb hd I1 r q⟩
end
/-- sys.modules stands -/
noncomputable def BaseM (base : Heap) : Prop := ∃ o es ep, base.get? sysModules = some o ∧ o.data = .dict es ep
noncomputable def scrH (a : Addr) (o : HO) : Hp := fun b => if b = a then some o else none
theorem law_callG {P : Program} {w : World} {K : PySem.W.Frag} {mg mb : Str → Option Value} {k : Nat} {fa a : Addr} {fd : FuncData} {x : Str} {sp : Sp} {s1 : Shared} {vs : List Value} {ns : List Int}
    (kin : K.In s1.heap) (hmg : s1.heap.Ns mainGlobals mg) (hmb : s1.heap.Ns builtinsNs mb) (hbb : ∀ x : Str, x ≠ "__name__" → mb x = bootBuiltins x) (nolim : s1.heap.NoLimit) (gens : s1.gens = #[])
    (scr : s1.heap.get? a = some { cls := .type "list", data := .seq vs.toArray }) (ii : IntsAre vs ns) (le : ns.length ≤ sizeLine) (rm : Room k callerA)
    (sysm : BaseM s1.heap) (F : ∀ base : Heap, K.In base → base.Ns mainGlobals mg → BaseM base → FnG P w K mg base k fa fd [x] sp) (bind : ∀ (s : Shared) (u : Value), BindsTo s fd ⟨[u], []⟩ [(x, u)])
    (hsp : ∀ H : Hp, SqL K H a (ns.map V.int) → sp [.ref a] H (fun v _ => v = .bl true) fun _ _ _ => False) :
    codeAny (model P w) callerA (.call (.ref fa) ⟨[.ref a], []⟩) (fun r s' => r = .ok (.ret (.bool true)) ∧ OldK s1.heap s'.heap ∧ s'.os = s1.os ∧ AllBare s'.gens) s1 := by
  have vals := vals_ints ii
  have ln := ii.length
  -- H tracks nothing, or the script alone, locked as it stands
  have main : ∀ H : Hp, (∀ b, H b = none ∨ (b = a ∧ K.lookup a = none ∧ ∃ o xs, H b = some (.frz o (.lst xs)))) → SqL K H a (ns.map V.int) → HOk P w H s1.heap →
      codeAny (model P w) callerA (.call (.ref fa) ⟨[.ref a], []⟩) (fun r s' => r = .ok (.ret (.bool true)) ∧ OldK s1.heap s'.heap ∧ s'.os = s1.os ∧ AllBare s'.gens) s1 := by
    intro H tr sq ok
    have out : ∀ {b : Addr} {o : Obj}, s1.heap.get? b = some o → H b = none → (hidT s1.heap H).get? b = some o := fun z n => hidT_get z n
    have free : ∀ {b : Addr} {o : Obj} {es : Array DictEntry} {ep : Nat}, s1.heap.get? b = some o → o.data = .dict es ep → H b = none := by
      intro b o es ep z d
      rcases tr b with h | ⟨rfl, _, _⟩
      · exact h
      · rw [scr] at z
        obtain rfl := Option.some.inj z
        exact Data.noConfusion d
    have ns' : ∀ {b : Addr} {m : Str → Option Value}, s1.heap.Ns b m → (hidT s1.heap H).Ns b m := by
      rintro b m ⟨o, es, ep, z, d, r⟩
      exact ⟨o, es, ep, out z (free z d), d, r⟩
    have kin' : K.In (hidT s1.heap H) := by
      intro b o z
      refine out (kin b o z) ?_
      rcases tr b with h | ⟨rfl, h, _⟩
      · exact h
      · rw [h] at z; exact nomatch z
    have bm : BaseM (hidT s1.heap H) := by
      obtain ⟨o, es, ep, z, d⟩ := sysm
      exact ⟨o, es, ep, out z (free z d), d⟩
    obtain ⟨mc, l1, l2⟩ := nolim
    have md : Mod K mg (hidT s1.heap H) := ⟨kin', ns' hmg, ⟨mb, ns' hmb, hbb⟩, ⟨mc, ns' l1, l2⟩⟩
    have e0 : Env0 P w K mg (hidT s1.heap H) callerA [] s1 H :=
      ⟨rfl, md, fun b o z => of_hidT z, Nat.le_of_eq (hidT_size _ _), trivial, fun b hb => (nomatch (show b ∈ ([] : List Addr) from hb)), ok, .of_eq gens⟩
    refine codeAny_mono ((F _ kin' (ns' hmg) bm).run callerA [] s1 H ⟨[.ref a], []⟩ [.ref a] [.ref a] _ _ ⟨rfl, rm⟩ e0 (bind s1 (.ref a)) (.cons rfl .nil) (hsp H sq)) fun r s' q => ?_
    rcases r with e' | fl
    · obtain ⟨_, _, _, _, _, _, _, _, _, _, _, _, z⟩ := q
      exact z.elim
    · rcases fl with _ | _ | _ | u
      · exact False.elim q
      · exact False.elim q
      · exact False.elim q
      · obtain ⟨v, H', os, bare, un, ok', r', hv⟩ := q
        have hv' : v = .bl true := hv
        subst hv'
        obtain rfl : u = Value.bool true := r'
        refine ⟨rfl, OldK.of_keep ?_, os, bare⟩
        intro b o z
        rcases tr b with h | ⟨_, _, ob, xs, h⟩
        · exact un.keep b o z h (fun m => (nomatch (show b ∈ ([] : List Addr) from m))) (fun m => (nomatch (show b ∈ ([] : List Addr) from m)))
        · have g1 := (ok b _ h).1
          have g2 := (ok' b _ (un.frzs b ob _ h)).1
          rw [z] at g1
          rw [g2, ← Option.some.inj g1]
  cases hk : K.lookup a with
  | some o =>
    have z := kin a o hk
    rw [scr] at z
    obtain rfl := Option.some.inj z
    refine main (fun _ => none) (fun _ => .inl rfl) (.inr ⟨_, vs.toArray, _, hk, rfl, rfl, rfl, ?_, ?_⟩) (fun b u h => (nomatch h))
    · rw [List.size_toArray, ln]; exact le
    · simpa using vals
  | none =>
    refine main (scrH a (.frz { cls := .type "list", data := .seq vs.toArray } (.lst (ns.map V.int)))) (fun b => ?_) (.inl (.inr ⟨_, if_pos rfl⟩)) (fun b u h => ?_)
    · by_cases c : b = a
      · exact .inr ⟨c, hk, _, _, if_pos c⟩
      · exact .inl (if_neg c)
    · by_cases c : b = a
      · have h' := (if_pos c).symm.trans h
        obtain rfl := Option.some.inj h'
        subst c
        exact ⟨scr, (by rw [List.length_map]; exact le), vs, _, vals, scr⟩
      · exact nomatch ((if_neg c).symm.trans h)
theorem walkG {l : PySem.W.OpenLaw} {n k : Nat} {q : Program} {loose : List Str} {XP : (Str → Option Value) → Heap → Prop} {YP : World → Heap → Prop} {d : DefRec} {K : Params → PySem.W.Frag} {sp : World → Sp} {x : Str}
    (hn : l.most = some n) (hn2 : n ≤ sizeLine) (hdf : d.params.defaults = []) (hi : importsNone q = true) (rm : Room k callerA) (hY : ∀ (w : World) (h : Heap), YP w h → (K w.params).In h)
    (F : ∀ (w : World) (mg : Str → Option Value) (fa : Addr) (h : Heap), (K w.params).In h → h.Ns mainGlobals mg → mg d.name = some (.ref fa) →
      ∃ fd : FuncData, (∀ (s : Shared) (u : Value), BindsTo s fd ⟨[u], []⟩ [(x, u)]) ∧ ∀ base : Heap, (K w.params).In base → base.Ns mainGlobals mg → BaseM base → FnG l.prog w (K w.params) mg base k fa fd [x] (sp w))
    (hsp : ∀ (w : World) (H : Hp) (a : Addr) (ns : List Int), ns.length ≤ n → SqL (K w.params) H a (ns.map V.int) → sp w [.ref a] H (fun v _ => v = .bl true) fun _ _ _ => False) :
    PySem.W.WalkO q loose XP YP l.row.toRowW d [] (fun f vs => PySem.call f vs) := by
  refine Att.attach_call hn hdf fun w s0 s1 mg mb fa o pm cd doc a vs ns G Y ho hd hcd hmg scr ii len gens => ?_
  obtain ⟨fd, hb, hF⟩ := F w mg fa _ (hY w _ Y) G.T.g hmg
  exact law_callG (hY w _ Y) G.T.g G.T.b G.T.builtins G.T.nolimit gens scr ii (Nat.le_trans len hn2) rm (by
    obtain ⟨mm, ⟨o, es, ep, z, d, _⟩, _⟩ := (G.T.seer hi).mods
    exact ⟨o, es, ep, z, d⟩) hF hb fun H sq => hsp w H a ns len sq
/-- .. the promise hangs on the written part alone -/
theorem walkGK {l : PySem.W.OpenLaw} {n k : Nat} {q : Program} {loose : List Str} {XP : (Str → Option Value) → Heap → Prop} {YP : World → Heap → Prop} {d : DefRec} {K : Params → PySem.W.Frag} (sp : PySem.W.Frag → Sp) {x : Str}
    (hn : l.most = some n) (hn2 : n ≤ sizeLine) (hdf : d.params.defaults = []) (hi : importsNone q = true) (rm : Room k callerA) (hY : ∀ (w : World) (h : Heap), YP w h → (K w.params).In h)
    (F : ∀ (w : World) (mg : Str → Option Value) (fa : Addr) (h : Heap), (K w.params).In h → h.Ns mainGlobals mg → mg d.name = some (.ref fa) →
      ∃ fd : FuncData, (∀ (s : Shared) (u : Value), BindsTo s fd ⟨[u], []⟩ [(x, u)]) ∧ ∀ base : Heap, (K w.params).In base → base.Ns mainGlobals mg → BaseM base → FnG l.prog w (K w.params) mg base k fa fd [x] (sp (K w.params)))
    (hsp : ∀ (K : PySem.W.Frag) (H : Hp) (a : Addr) (ns : List Int), ns.length ≤ n → SqL K H a (ns.map V.int) → sp K [.ref a] H (fun v _ => v = .bl true) fun _ _ _ => False) :
    PySem.W.WalkO q loose XP YP l.row.toRowW d [] (fun f vs => PySem.call f vs) :=
  walkG (K := K) (sp := fun w => sp (K w.params)) hn hn2 hdf hi rm hY F fun w H a ns h1 h2 => hsp (K w.params) H a ns h1 h2
end Gk
set_option maxRecDepth 100000
set_option maxHeartbeats 1000000
namespace Gk
open PySem PySem.Spec PyProof.Rows L2
open PySem.Builtin PySem.Builtin.ObjectAttr
open PySem.W (Frag findIn subIn typeIn keepIn codeIn hasDictIn exmOne fnOf clsIn findCls readsIn specialIn)
/-- the text of __init__ -/
noncomputable def nA (p1 p2 : Pos) : Arguments := { posonlyargs := [], args := [{ arg := "self", annotation := none, pos := p1 }, { arg := "found", annotation := none, pos := p2 }], vararg := none, kwonlyargs := [], kw_defaults := [], kwarg := none, defaults := [] }
noncomputable def nB (b txt : Str) (q : Nat → Pos) (j : Nat) : List Stmt :=
  [.Expr (.Call (.Attribute (.Name b (q 0)) "__init__" (q 1)) [.Name "self" (q 2), .Constant (.str txt) j (q 3)] [] (q 4)) (q 5),
   .Assign [.Attribute (.Name "self" (q 6)) "found" (q 7)] (.Name "found" (q 8)) (q 9)]
noncomputable def nS (b : Str) : Scope := { kind := .function, names := [(Str.ofString "self", .local), (Str.ofString "found", .local), (b, .globalImplicit)], isGenerator := false, isCoroutine := false, more := [] }
/-- a built-in exception's own part of the order of resolution; its __new__ may be an elder one's -/
structure Tl (nb newId initId : String) (tl : List Value) : Prop where
  new : ∃ (nn iN : String) (bN : List Value), ExcBaseFacts nn newId iN bN ∧ tl.contains (.type nn) = true
  nA : tl.contains (.type "AttributeError") = false
  nN : tl.contains (.type "NameError") = false
  own : tl.contains (.type nb) = true
  ik : builtinKind initId = some .slot
  isp : splitId initId = some (nb, "__init__")
  ir : Manifest.signature? initId = some ⟨.positional, "*", nb, .self, [⟨"args", .varPos, false⟩]⟩
  ie : entryFor table initId = some Builtin.«BaseException.__init__»
  ip : plainId initId = true
  st : (nb != "*") = true
  pass : ∀ self, refuseLoop self "__setattr__" tl = pure ()
  obj : tl.contains (.type "object") = true
  hi : PySem.W.handedIn (.builtin initId) = true
theorem Tl.of {nb newId initId : String} {tl : List Value} (x : ExcBaseFacts nb newId initId tl) (pass : ∀ self, refuseLoop self "__setattr__" tl = pure ()) (obj : tl.contains (.type "object") = true) (hi : PySem.W.handedIn (.builtin initId) = true) : Tl nb newId initId tl :=
  ⟨⟨nb, initId, tl, x, x.hasB⟩, x.noAttr, x.noName, x.hasB, x.initKind, x.initSplit, x.initRow, x.initEntry, x.init.plain, x.noStar, pass, obj, hi⟩
theorem tlVE : Tl "ValueError" "ValueError.__new__" "ValueError.__init__" [.type "ValueError", .type "Exception", .type "BaseException", .type "object"] :=
  .of F.excBase_ValueError F.store_ValueError.passes (by decide +kernel) (by decide +kernel)
theorem tlKE : Tl "KeyError" "LookupError.__new__" "KeyError.__init__" [.type "KeyError", .type "LookupError", .type "Exception", .type "BaseException", .type "object"] where
  new := ⟨_, _, _, F.excBase_LookupError, by decide +kernel⟩
  nA := by decide +kernel
  nN := by decide +kernel
  own := by decide +kernel
  ik := excClass_KeyError.initKind
  isp := excClass_KeyError.initSplit
  ir := excClass_KeyError.initSig
  ie := excClass_KeyError.initEntry
  ip := excClass_KeyError.init.plain
  st := by decide +kernel
  pass := fun self => by kernel_rfl
  obj := by decide +kernel
  hi := by decide +kernel
section
variable {M : Model} {prog : Program} {w : World} {A : Around} {E : Value → Shared → Prop} {R : Result → Shared → Prop} {hp : Heap} {gs : Array GenState} {dr : Drawn} {tk : Nat} {os : OsState}
variable {nm qn : Str} {C B NN : Addr} {bases tl : List Value} {hd : Bool} {sn : List Str} {su : List Value} {ab : Bool} {col : Option Bool} {dd : Option Addr} {k0 k1 k2 k3 k5 : Option Value} {nb newId initId : String}
theorem tl_in {x : Value} (y : Value) (e : tl.contains x = true) (n : ∀ a, x ≠ .ref a) : (Value.ref C :: .ref B :: tl).contains x = true := by
  rw [List.contains_cons, List.contains_cons, e, Bool.or_true, Bool.or_true]
theorem tl_out {X : String} (e : tl.contains (.type X) = false) : (Value.ref C :: .ref B :: tl).contains (.type X) = false := by
  rw [List.contains_cons, List.contains_cons, e]; rfl
theorem chk_newT (T : Tl nb newId initId tl) {us : List Value} {Q : Unit → Shared → Prop}
    (hC : hp.get? C = some (excClassObj nm qn C NN bases (.ref B :: tl) hd sn su ab col dd k0 k1 k2 k3 k5 newId)) (hq : Q () ⟨hp, gs, dr, tk, os⟩) :
    wpAny M A (checkBuiltinCall newId ⟨.ref C :: us, []⟩) Q E ⟨hp, gs, dr, tk, os⟩ := by
  obtain ⟨nn, iN, bN, F, e⟩ := T.new
  have there : (Value.ref C :: .ref B :: tl).contains (.type nn) = true := tl_in (.type nn) e (fun _ z => nomatch z)
  have star := F.noStar
  simp only [checkBuiltinCall, F.newKind, F.newSplit, F.newRow]
  repeat (first
    | refine wpAny_loadPart_at hC ?_
    | (refine wpAny_isSubtype_exc hC ?_; rw [there])
    | refine wpAny_staticBase_exc hC ?_
    | refine wpAny_madeBy_exc hC ?_
    | simp only [bne_self_eq_false, Bool.false_eq_true, if_false]
    | wp_step)
  exact hq
theorem chk_initT (T : Tl nb newId initId tl) {x : Addr} {ox : Obj} {us : List Value} {Q : Unit → Shared → Prop}
    (hC : hp.get? C = some (excClassObj nm qn C NN bases (.ref B :: tl) hd sn su ab col dd k0 k1 k2 k3 k5 newId)) (hx : hp.get? x = some ox) (cx : ox.cls = .ref C) (hq : Q () ⟨hp, gs, dr, tk, os⟩) :
    wpAny M A (checkBuiltinCall initId ⟨.ref x :: us, []⟩) Q E ⟨hp, gs, dr, tk, os⟩ := by
  have there : (Value.ref C :: .ref B :: tl).contains (.type nb) = true := tl_in (.type nb) T.own (fun _ z => nomatch z)
  have star := T.st
  simp only [checkBuiltinCall, T.ik, T.isp, T.ir]
  repeat (first
    | (with_reducible refine wpAny_loadPart_at hx ?_; rw [cx])
    | with_reducible refine wpAny_loadPart_at hC ?_
    | (with_reducible refine wpAny_isSubtype_exc hC ?_; rw [there])
    | wp_step)
  refine wpAny_onRaise ?_
  have fits : ∀ (a b : String) (n : Nat), Bind.check ⟨.positional, "*", nb, .self, [⟨"args", .varPos, false⟩]⟩ a b n (List.map (fun y => y.fst) ({ pos := Value.ref x :: us } : Args).kw) = pure () := fun _ _ _ => check_star_args _ _ _ _ _ _
  rw [fits]
  exact wpAny_pure hq
theorem newT (T : Tl nb newId initId tl) {us : List Value}
    (hC : hp.get? C = some (excClassObj nm qn C NN bases (.ref B :: tl) hd sn su ab col dd k0 k1 k2 k3 k5 newId))
    (hq : R (.ok (.ret (.ref (hp.objs.size + 1)))) ⟨(hp.push (PySem.W.kdv_tup us)).push (PySem.HandSPX.excO C hp.objs.size), gs, dr, tk, os⟩) (few : us.length ≤ sizeLine) :
    codeAny (model prog w) A (.builtin newId ⟨.ref C :: us, []⟩) R ⟨hp, gs, dr, tk, os⟩ := by
  obtain ⟨nn, iN, bN, F, e⟩ := T.new
  have ends := F.ends
  have i1 : (Value.ref C :: .ref B :: tl).contains (.type nn) = true := tl_in (.type nn) e (fun _ z => nomatch z)
  have i2 := tl_out (C := C) (B := B) T.nA
  have i3 := tl_out (C := C) (B := B) T.nN
  refine PySem.codeAny_builtinAt F.entry ?_
  unfold Builtin.«BaseException.__new__»
  refine PySem.wpAt_bind ?_
  show PySem.wpAt _ _ _ (PySem.stack >>= _) _ _ _
  refine PySem.wpAt_bind (PySem.wpAt_stack fun _ _ => PySem.wpAt_of_wpAny ?_)
  wp_walk
  refine PySem.wpAt_of_wpAny ?_
  rw [F.owner]
  repeat (first
    | with_reducible refine wpAny_madeHere_exc F.canon hC ?_
    | with_reducible refine wpAny_loadPart_at hC ?_
    | (with_reducible refine wpAny_isSubtype_exc hC ?_; first | rw [i1] | rw [i2] | rw [i3])
    | wp_step)
  show R _ _
  rw [Heap.size_push]
  exact hq
theorem typeT (T : Tl nb newId initId tl) {us : List Value} {fI : Addr} {Q : Fin → Shared → Prop}
    (hC : hp.get? C = some (excClassObj nm qn C NN bases (.ref B :: tl) hd sn su ab col dd k0 k1 k2 k3 k5 newId))
    (li : PySem.W.Looks (model prog w) hp (typeLookup (.ref C) "__init__") (some (.ref fI))) (lb : ∀ self, PySem.W.Looks (model prog w) hp (bindSpecial (.ref fI) self) (.ref fI, [self])) (few : us.length ≤ sizeLine)
    (hq : codeAny (model prog w) A (.call (.ref fI) ⟨.ref (hp.objs.size + 1) :: us, []⟩)
      (fun r s' => match r with | .ok (.ret v) => v = .none ∧ Q (.done (.ret (.ref (hp.objs.size + 1)))) s' | .ok _ => False | .error z => E z s')
      ⟨(hp.push (PySem.W.kdv_tup us)).push (PySem.HandSPX.excO C hp.objs.size), gs, dr, tk, os⟩) :
    wpAny (model prog w) A (Builtin.«type.__call__» ⟨.ref C :: us, []⟩) Q E ⟨hp, gs, dr, tk, os⟩ := by
  obtain ⟨nn, iN, bN, F, _⟩ := T.new
  repeat (first
    | with_reducible refine wpAny_loadPart_at hC ?_
    | with_reducible refine wpAny_madeBy_exc hC ?_
    | wp_step)
  refine codeAny_call_builtin_code (Code.quiet_builtin _ F.quiet) (chk_newT T hC ?_)
  refine newT T hC ?_ few
  show wpAny _ _ _ _ _ _
  have up : ∀ c o, hp.get? c = some o → ((hp.push (PySem.W.kdv_tup us)).push (PySem.HandSPX.excO C hp.objs.size)).get? c = some o := fun _ _ z => Heap.get?_push_of_some _ (Heap.get?_push_of_some _ z)
  have hC1 := up _ _ hC
  have hx : ((hp.push (PySem.W.kdv_tup us)).push (PySem.HandSPX.excO C hp.objs.size)).get? (hp.objs.size + 1) = some (PySem.HandSPX.excO C hp.objs.size) := by heap_get
  have itself : (Value.ref C :: .ref B :: tl).contains (.ref C) = true := by simp
  have l1 := li.keeps up
  have l2 := (lb (.ref (hp.objs.size + 1))).keeps up
  unfold isInstance
  repeat (first
    | with_reducible refine wpAny_loadPart_at hx ?_
    | (with_reducible refine wpAny_isSubtype_exc hC1 ?_; rw [itself])
    | wp_step)
  show wpAny _ _ (typeLookup (.ref C) _) _ _ _
  refine l1.at (wpAny_holding (wpAny_bind (l2.at ?_)))
  refine wpAny_bind (wpAny_call (codeAny_mono hq fun r s' z => ?_))
  rcases r with z1 | (z1 | _ | _ | _) <;> first | exact z | exact z.elim | skip
  obtain ⟨rfl, z⟩ := z
  first
    | exact wpAny_pure (wpAny_pure z)
    | (wp_walk; exact z)
/-- the class called -/
theorem callT (T : Tl nb newId initId tl) {us : List Value} {fI : Addr}
    (hC : hp.get? C = some (excClassObj nm qn C NN bases (.ref B :: tl) hd sn su ab col dd k0 k1 k2 k3 k5 newId))
    (li : PySem.W.Looks (model prog w) hp (typeLookup (.ref C) "__init__") (some (.ref fI))) (lb : ∀ self, PySem.W.Looks (model prog w) hp (bindSpecial (.ref fI) self) (.ref fI, [self])) (few : us.length ≤ sizeLine)
    (hq : codeAny (model prog w) (A.under (.builtin "type.__call__" ⟨.ref C :: us, []⟩)) (.call (.ref fI) ⟨.ref (hp.objs.size + 1) :: us, []⟩) (PySem.W.InitBack (hp.objs.size + 1) R)
      ⟨(hp.push (PySem.W.kdv_tup us)).push (PySem.HandSPX.excO C hp.objs.size), gs, dr, tk, os⟩) :
    codeAny (model prog w) A (.call (.ref C) ⟨us, []⟩) R ⟨hp, gs, dr, tk, os⟩ := by
  have u1 := tc_lookup
  have u2 := tc_bind (.ref C)
  have ty : (⟨hp, gs, dr, tk, os⟩ : Shared).TypeIs (.ref C) "type" := ⟨_, hC, rfl⟩
  refine codeAny_of_tree ?_
  show wpAny _ _ (callAny (.ref C) _) _ _ _
  repeat (any_goals (first
    | assumption
    | with_reducible refine wpAny_loadPart_at hC ?_
    | wp_step))
  refine ⟨rfl, codeAny_call_builtin_at (Code.quiet_builtin _ (by decide +kernel)) entry_typeCall (wpAny_check_type_call_sub hC (typeT T hC li lb few ?_))⟩
  refine codeAny_mono hq fun r _ z => ?_
  rcases r with _ | (_ | _ | _ | _) <;> exact z
/-- the built-in __init__ lays the args anew -/
theorem initT (T : Tl nb newId initId tl) {x t0 : Addr} {us : List Value}
    (hC : hp.get? C = some (excClassObj nm qn C NN bases (.ref B :: tl) hd sn su ab col dd k0 k1 k2 k3 k5 newId)) (hx : hp.get? x = some (PySem.HandSPX.excO C t0)) (few : us.length ≤ sizeLine)
    (hq : ∀ h' t1, (∀ c o, c ≠ x → hp.get? c = some o → h'.get? c = some o) → h'.get? x = some (PySem.HandSPX.excO C t1) → R (.ok (.ret .none)) ⟨h', gs, dr, tk, os⟩) :
    codeAny (model prog w) A (.call (.builtin initId) ⟨.ref x :: us, []⟩) R ⟨hp, gs, dr, tk, os⟩ := by
  refine codeAny_call_builtin T.ip T.ie (chk_initT T hC hx rfl ?_)
  wp_walk
  refine hq _ hp.objs.size (fun c o hc ho => ?_) ?_
  · exact (Heap.get?_update_other _ _ (Ne.symm hc)).trans (Heap.get?_push_of_some _ ho)
  · rw [Heap.get?_update_self _ (Heap.get?_push_of_some _ hx) rfl]; rfl
end
/-- the call in its place: as a method's call -/
noncomputable def CallF (b txt : Str) (q : Nat → Pos) (j : Nat) : Prop := ∃ pl : Env → Sem Bool, ∀ env : Env,
  eval (.Call (.Attribute (.Name b (q 0)) "__init__" (q 1)) [.Name "self" (q 2), .Constant (.str txt) j (q 3)] [] (q 4)) env = (do
    let ov ← eval (.Name b (q 0)) env
    standAt (q 1).atName
    let (f, first) ← holding [ov] (getMethod ov "__init__" (pl env))
    callWith (q 4) f first (backTo (q 4) (starEach [.Name "self" (q 2), .Constant (.str txt) j (q 3)] env)) (backToKw (q 4) (keywordEach [] env)))
/-- what the written part says of the class at C, over B at B, its __init__ at fI -/
structure NoC (K : Frag) (mg : Str → Option Value) (C B fI : Addr) (newId initId bq : String) (b cq : Str) (tl : List Value) : Prop where
  cls : ∃ nm q N bs sn sub ab col dd k0 k1 k2 k3 k5, K.lookup C = some (excClassObj nm q C N bs (.ref B :: tl) true sn sub ab col dd k0 k1 k2 k3 k5 newId)
  gB : mg b = some (.ref B)
  sa : findIn K (.ref C) "__setattr__" = some (some (.builtin "object.__setattr__"))
  ga : findIn K (.ref C) "__getattribute__" = some (some (.builtin "BaseException.__getattribute__"))
  gg : findIn K (.ref C) "__getattr__" = some none
  noN : findIn K (.ref C) "found" = some none
  iC : findIn K (.ref C) "__init__" = some (some (.ref fI))
  tI : typeIn K (.ref fI) = some (.type "function")
  kC : keepIn K (.ref C) = true
  exC : subIn K (.ref C) (.type "BaseException") = some true
  tyC : typeIn K (.ref C) = some (.type "type")
  hdC : hasDictIn K C = true
  rB : readsIn K B (.type "type") = true
  sB : specialIn K (.ref B) "__getattribute__" = some (some (.builtin "type.__getattribute__"))
  iB : findCls K (.ref B) (.type "type") "__init__" = some (.val (.builtin initId))
  fn : ∃ (oc : Value) (od : Option Addr) (dc pm : Value) (an : Option Addr) (cd ct : Value) (osl : Array (Option Value)) (p1 p2 : Pos) (q : Nat → Pos) (j : Nat) (txt : Str),
    K.lookup fI = some ⟨oc, od, .func (fnOf "__init__" cq (nA p1 p2) (nB b txt q j) (nS b) .none .none dc pm an cd ct), osl⟩ ∧ codeIn K cd cq = true ∧ CallF b txt q j
section
variable {M : Model} {prog : Program} {w : World} {A : Around} {E : Value → Shared → Prop} {R : Result → Shared → Prop} {K : Frag} {mg : Str → Option Value} {C B fI : Addr} {nb newId initId bq : String} {b cq : Str} {tl : List Value}
/-- self.name = v on an exception without a dict -/
theorem osaN {hp : Heap} {g : Array GenState} {d : Drawn} {t : Nat} {os : OsState} {name : Str} {tk : Tok} {v : Value} {x C : Addr} {fv : Array Value} {cd : ClassData} (T : Tl nb newId initId tl)
    (kin : K.In hp) (hx : hp.get? x = some { cls := .ref C, data := .fields fv }) (hcd : clsIn K C = some cd) (hm : cd.mro = .ref C :: .ref B :: tl) (hh : cd.hasDict = true) (ha : findIn K (.ref C) name = some none)
    (hq : ∀ h' tk' dx, (∀ c o, c ≠ x → hp.get? c = some o → h'.get? c = some o) → hp.objs.size ≤ dx → dx ≠ x → h'.get? x = some { cls := .ref C, dict := some dx, data := .fields fv } →
      h'.Ns1 dx (fun y => if y = name then some v else none) → R (.ok (.ret .none)) ⟨h', g, d, tk', os⟩) :
    codeAny (model prog w) A (.call (.builtin "object.__setattr__") ⟨[.ref x, .str name tk, v], []⟩) R ⟨hp, g, d, t, os⟩ := by
  have J : PySem.W.InstAt hp x { cls := .ref C, data := .fields fv } C none := ⟨hx, rfl, rfl, trivial⟩
  have so := PySem.F.store_object
  have ps : ∀ self, refuseLoop self "__setattr__" cd.mro = pure () := fun self => by rw [hm, refuseLoop_ref, refuseLoop_ref]; exact T.pass self
  have inObj : cd.mro.contains (.type "object") = true := by
    rw [hm, List.contains_cons, List.contains_cons, T.obj]; simp
  have xs : x ≠ hp.objs.size := Nat.ne_of_lt (Heap.lt_size hx)
  have isO : PySem.W.Looks (model prog w) hp (isInstance (.ref x) (.type "object")) true := by
    refine J.type.andThen (PySem.W.looks_mroIn kin ?_)
    unfold PySem.W.mroIn
    rw [hcd, Option.bind_some, if_neg (by rw [hm]; simp), inObj]
  refine codeAny_call_builtin so.slot.plain so.entry ?_
  refine @PySem.W.check_slot (model prog w) _ _ ⟨hp, g, d, t, os⟩ "object.__setattr__" "object" "__setattr__" (.ref x) [.str name tk, v] [] _ so.kind so.split isO (so.args (.ref x) (.str name tk) v) ?_
  have lm : PySem.W.Looks (model prog w) hp (mroOf (.ref C)) cd.mro := (PySem.W.looks_clsIn kin hcd).andThen .now
  have lc : PySem.W.Looks (model prog w) hp (classData C) cd := PySem.W.looks_clsIn kin hcd
  have l0 : PySem.W.Looks (model prog w) hp (storeTaker? none) none := .now
  rw [PySem.W.osa_eq, refuse_eq]
  refine wpAny_bind (wpAny_bind (J.type.at (wpAny_bind (lm.at ?_))))
  rw [ps]
  refine wpAny_pure (wpAny_bind (J.type.at (wpAny_bind ((PySem.W.looks_findIn kin ha).at (wpAny_bind (l0.at ?_))))))
  show wpAny _ _ (storeInOwnDict (.ref x) (.ref C) (.str name tk) name v false) _ _ _
  obtain ⟨a1, a2, a3, a4, a5, a6, a7, a8, a9, a10, a11⟩ := cd
  dsimp only at hh
  subst hh
  unfold storeInOwnDict ownDictForStores
  repeat (first | with_reducible refine PySem.HandSPX.store_in_new ?_ ?_ | with_reducible refine wpAny_loadPart_at hx ?_ | with_reducible refine lc.at ?_ | wp_step)
  · exact ⟨_, #[], _, (Heap.get?_update_ne _ _ _ _ xs.symm).trans (Heap.get?_push_at rfl rfl), rfl, (fun e he => absurd he (by simp)), fun _ => rfl⟩
  · intro h' tk' hn' hs
    have hx1 : (hp.push { cls := .type "dict", data := .dict #[] }).get? x = some { cls := .ref C, data := .fields fv } := Heap.get?_push_of_some _ hx
    refine hq h' tk' hp.objs.size (fun c o hc ho => ?_) (Nat.le_refl _) xs.symm ((hs.2 x xs).trans (Heap.get?_update_self _ hx1 rfl)) hn'
    exact (hs.2 c (Nat.ne_of_lt (Heap.lt_size ho))).trans ((Heap.get?_update_ne _ _ _ _ hc).trans (Heap.get?_push_of_some _ ho))
theorem ldN {env : Env} {m : Str → Option Value} {x : Str} {pos : Pos} {v : Value} {Q : Value → Shared → Prop} {s : Shared} (hk : env.scope.kind = .function) (hl : env.kindOf x = some .local) (hn : s.heap.Ns env.locals m) (hv : m x = some v) (h : Q v s)
    (hd : (x == ("__debug__" : Str)) = false := by decide) : wpAny M A (eval (.Name x pos) env) Q E s := wpAny_Name (wpAny_loadName_local hk hl hn hv h) hd
/-- what __init__ leaves of a fresh exception at x -/
structure EndN (h h' : Heap) (x C dx t1 : Addr) (v : Value) : Prop where
  keep : ∀ c o, c ≠ x → h.get? c = some o → h'.get? c = some o
  obj : h'.get? x = some { cls := .ref C, dict := some dx, data := .fields #[.ref t1, .none, .none, .none, .bool false, .none] }
  big : h.objs.size ≤ dx
  ne : dx ≠ x
  ns : h'.Ns1 dx (fun y => if y = "found" then some v else none)
theorem init_no {s : Shared} (T : Tl nb newId initId tl) (N : NoC K mg C B fI newId initId bq b cq tl) {x t0 : Addr} {v : Value} (kin : K.In s.heap) (hmg : s.heap.Ns mainGlobals mg) (lim : s.heap.NoLimit) (hx : s.heap.get? x = some (PySem.HandSPX.excO C t0)) (hnx : K.lookup x = none) (room : A.depth < recursionLimit)
    (hb1 : (b == ("__debug__" : Str)) = false) (hb2 : ¬ b = "self") (hb3 : ¬ b = "found")
    (hq : ∀ h' tk dx t1, EndN s.heap h' x C dx t1 v → R (.ok (.ret .none)) { s with heap := h', toks := tk }) : codeAny (model prog w) A (.call (.ref fI) ⟨[.ref x, v], []⟩) R s := by
  obtain ⟨oc, od, dc, pm, an, cd, ct, osl, p1, p2, q, j, txt, lk, hcd, pl, hcall⟩ := N.fn
  obtain ⟨nm, qq, NN, bs, sn, sub, ab, col, dd, k0, k1, k2, k3, k5, hC⟩ := N.cls
  have hcl : clsIn K C = some { name := nm, bases := bs, mro := .ref C :: .ref B :: tl, ns := NN, qualname := qq, hasDict := true, slotNames := sn, subclasses := sub, abstract := ab, collection := col, hasDel := false } := by unfold clsIn; rw [hC] <;> rfl
  refine Att.call_fn (binds := [("self", .ref x), ("found", v)]) kin lim lk hcd room (BindsTo.of_eq (by first | rfl | with_unfolding_all rfl)) (by first | rfl | decide | with_unfolding_all rfl) (fun s1 ic => ?_) rfl rfl rfl
  obtain ⟨h1, tk1, rfl⟩ := ic.toInCall.same
  have keep : ∀ c o, s.heap.get? c = some o → h1.get? c = some o := ic.toInCall.keep
  have hn := ic.toInCall.ns
  have xL : s.heap.objs.size ≠ x := Nat.ne_of_gt (Heap.lt_size hx)
  have kin1 : K.In h1 := kin.keeps keep
  have hx1 := keep _ _ hx
  have hg1 : h1.Ns mainGlobals mg := hmg.keeps keep
  have kl : (envOfC cq (nS b) s.heap.objs.size fI cd).kindOf b = some .globalImplicit := by
    show (nS b).names.lookup b = some .globalImplicit
    show (List.lookup b [(Str.ofString "self", NameKind.local), (Str.ofString "found", NameKind.local), (b, NameKind.globalImplicit)]) = _
    rw [List.lookup_cons, List.lookup_cons, List.lookup_cons]
    rw [show (b == Str.ofString "self") = false from beq_eq_false_iff_ne.mpr hb2, show (b == Str.ofString "found") = false from beq_eq_false_iff_ne.mpr hb3, show (b == b) = true from beq_self_eq_true b]
  show wpAny _ _ (execs _ _) _ _ _
  refine wpAny_execs_cons (wpAny_Expr_any ?_ (by first | rfl | with_unfolding_all rfl) (by first | rfl | with_unfolding_all rfl))
  -- B.__init__(self, '..')
  refine PySem.W.methodCall_KW (Calls.Name_function_global (by first | rfl | with_unfolding_all rfl) kl (Calls.loadGlobal_global hg1 N.gB ?_) hb1) (hcall _)
  refine PySem.W.method_cls kin1 N.sB (PySem.W.cls_value kin1 N.rB N.iB T.hi ?_)
  show wpAny _ _ (callWith (q 4) (Value.builtin initId) [] (backTo (q 4) (starEach [.Name "self" (q 2), .Constant (.str txt) j (q 3)] _)) []) _ _ _
  refine PyProof.Rows.callWith_method1 ?_ (by rfl) (by rfl)
  refine spliced_more (ldN (v := .ref x) rfl (by first | rfl | with_unfolding_all rfl) hn (by first | rfl | with_unfolding_all rfl | kernel_rfl) ?_)
  refine spliced_more (Calls.Constant_str ?_)
  refine spliced_none ?_
  have conts : ∀ Y : String, (Value.ref B :: tl).contains (.type Y) = tl.contains (.type Y) := fun Y => by rw [List.contains_cons]; rfl
  refine wpAny_call (initT T (kin1 _ _ hC) hx1 (by rw [sizeLine_eq]; exact (by decide : 1 ≤ 16777216)) fun h2 t1 k2 hx2 => ?_)
  -- self.found = found
  show wpAny _ _ (execs _ _) _ _ _
  have L0 : s.heap.objs.size ≠ x := xL
  have hn2 := hn.at (fun o e => k2 _ o L0 e)
  have kin2 : K.In h2 := fun a o e => k2 a o (fun z => by
    rw [z, hnx] at e
    exact nomatch e) (kin1 a o e)
  refine wpAny_execs_cons (plainObj_wpAny_Assign_Attribute ?_)
  refine ldN (v := v) rfl (by first | rfl | with_unfolding_all rfl) hn2 (by first | rfl | with_unfolding_all rfl | kernel_rfl) (ldN (v := .ref x) rfl (by first | rfl | with_unfolding_all rfl) hn2 (by first | rfl | with_unfolding_all rfl | kernel_rfl) ?_)
  refine PySem.W.set_plain kin2 (ox := PySem.HandSPX.excO C t1) (od := none) ⟨hx2, rfl, rfl, trivial⟩ N.sa ?_
  refine osaN T kin2 hx2 hcl rfl rfl N.noN (fun h3 tk3 dx k3 dn dne hx3 hn3 => ?_)
  show wpAny _ _ (execs _ _) _ _ _
  refine wpAny_execs_nil (hq h3 tk3 dx t1 ⟨fun c o hc e => k3 c o hc (k2 c o hc (keep c o e)), hx3, ?_, dne, hn3⟩)
  exact Nat.le_of_lt (Nat.lt_of_lt_of_le hn2.lt dn)
/-- such an exception, made -/
structure MadeN (h h' : Heap) (e C d : Addr) (v : Value) : Prop where
  keep : ∀ c o, h.get? c = some o → h'.get? c = some o
  new : h.objs.size ≤ e
  obj : ∃ oe vs, h'.get? e = some oe ∧ oe.cls = .ref C ∧ oe.dict = some d ∧ oe.data = .fields vs ∧ vs[1]? = some .none ∧ vs[2]? = some .none ∧ 4 < vs.size
  big : h.objs.size ≤ d
  ne : d ≠ e
  ns : h'.Ns1 d (fun y => if y = "found" then some v else none)
theorem made_no {s : Shared} (T : Tl nb newId initId tl) (N : NoC K mg C B fI newId initId bq b cq tl) {v : Value} (kin : K.In s.heap) (hmg : s.heap.Ns mainGlobals mg) (lim : s.heap.NoLimit) (room : A.depth + 1 < recursionLimit)
    (hb1 : (b == ("__debug__" : Str)) = false) (hb2 : ¬ b = "self") (hb3 : ¬ b = "found")
    (hq : ∀ h' tk e d, MadeN s.heap h' e C d v → R (.ok (.ret (.ref e))) { s with heap := h', toks := tk }) : codeAny (model prog w) A (.call (.ref C) ⟨[v], []⟩) R s := by
  obtain ⟨nm, qq, NN, bs, sn, sub, ab, col, dd, k0, k1, k2, k3, k5, hC⟩ := N.cls
  obtain ⟨hp, g, dr, tk, os⟩ := s
  have up : ∀ c o, hp.get? c = some o → ((hp.push (PySem.W.kdv_tup [v])).push (PySem.HandSPX.excO C hp.objs.size)).get? c = some o :=
    fun c o z => Heap.get?_push_of_some _ (Heap.get?_push_of_some _ z)
  have here : ((hp.push (PySem.W.kdv_tup [v])).push (PySem.HandSPX.excO C hp.objs.size)).get? (hp.objs.size + 1) = some (PySem.HandSPX.excO C hp.objs.size) := by heap_get
  have out : K.lookup (hp.objs.size + 1) = none := by
    cases z : K.lookup (hp.objs.size + 1) with
    | none => rfl
    | some o => exact absurd (Nat.lt_of_succ_lt (Heap.lt_size (show hp.get? (hp.objs.size + 1) = some o from kin _ _ z))) (Nat.lt_irrefl _)
  have conts : ∀ Y : String, (Value.ref B :: tl).contains (.type Y) = tl.contains (.type Y) := fun Y => by rw [List.contains_cons]; rfl
  refine callT T (kin _ _ hC) (PySem.W.looks_findIn kin N.iC) (fun self => PySem.W.bind_fn kin self N.tI) (by rw [sizeLine_eq]; exact (by decide : 1 ≤ 16777216)) ?_
  refine init_no (s := ⟨(hp.push (PySem.W.kdv_tup [v])).push (PySem.HandSPX.excO C hp.objs.size), g, dr, tk, os⟩) T N (kin.keeps up) (hmg.keeps up) (lim.keeps up) here out (show A.depth + 1 < recursionLimit from room) hb1 hb2 hb3 fun h' tk' dx t1 ⟨k', hx, big, ne, ns⟩ => ?_
  have old : ∀ c o, hp.get? c = some o → h'.get? c = some o := fun c o z => k' c o (Nat.ne_of_lt (Nat.lt_succ_of_lt (Heap.lt_size z))) (up c o z)
  have sz : hp.objs.size + 1 + 1 ≤ dx := by
    first
      | (simpa only [Heap.size_push] using big)
      | exact big
      | (have z := big; rw [Heap.size_push, Heap.size_push] at z; exact z)
  exact ⟨rfl, hq h' tk' (hp.objs.size + 1) dx ⟨old, Nat.le_succ _, ⟨_, _, hx, rfl, rfl, rfl, rfl, rfl, (show 4 < 6 from by decide)⟩, Nat.le_trans (Nat.le_trans (Nat.le_succ _) (Nat.le_succ _)) sz, ne, ns⟩⟩
end
/-- what the exception's dict tells -/
theorem relO_found {v : V} {u : Value} (r : RelV v u) (f : Str) : RelO (List.lookup f [(("found" : Str), v)]) (if f = "found" then some u else none) := by
  rw [lookup_put]
  by_cases h : f = "found"
  · rw [if_pos h, if_pos h]; exact r
  · rw [if_neg h, if_neg h]; trivial
section
variable {X : Cx} {C B fI : Addr} {nb newId initId bq : String} {b cq cn : Str} {tl : List Value}
/-- X(e) -/
noncomputable def tMkN (C : Addr) (ta : TA) : L2.St → Hp → XK → Prop := fun σ H Q => ta σ H fun vs H1 => ∃ v, vs = [v] ∧ ∀ d, H1 d = none → Q (.ref C) (some d) (upd H1 d (.xd [(("found" : Str), v)]))
theorem pmk_no5 {a : Expr} {ta : TA} {p pos : Pos} (T : Tl nb newId initId tl) (N : NoC X.K X.mg C B fI newId initId bq b cq tl) (hm : X.mg cn = some (.ref C)) (hdp : X.A.depth + 1 < recursionLimit)
    (hb1 : (b == ("__debug__" : Str)) = false) (hb2 : ¬ b = "self") (hb3 : ¬ b = "found") (ha : PA X [a] ta) (hg : Gl X cn := by rfl) (hdb : (cn == ("__debug__" : Str)) = false := by decide)
    (he : starEach (a :: []) X.env = (false, eval a X.env) :: starEach [] X.env := by rfl) (hpl : (backTo pos (starEach [] X.env)).any (·.1) = false := by rfl) :
    L2H.PMk5 X (.Call (.Name cn p) [a] [] pos) (tMkN C ta) := by
  intro pins s σ H Q I h
  refine wpAny_Call_Name_kw (ld_glob I hg hm ?_ hdb)
  refine PySem.W.callWith_K (h₀ := X.base) I.ok.mod.kin N.kC (thn (ha.run pos pins s σ H _ I h) ?_) he hpl
  rintro us s1 ⟨vs, H1, I1, r1, v, rfl, q1⟩
  refine ⟨I1.kIn, ?_⟩
  obtain ⟨u, rfl, rv⟩ := vals1 r1
  show wpAny _ _ (call (.ref C) [u]) _ _ _
  have lim := I1.nolimit
  have hmg : s1.heap.Ns mainGlobals X.mg := I1.mod.glob.keeps I1.bk
  obtain ⟨hp, g, dr, tk, os⟩ := s1
  refine wpAny_call (made_no T N I1.kIn hmg lim hdp hb1 hb2 hb3 fun h' tk' e d M => ?_)
  show L2N.MkP X pins σ Q (.ref e) ⟨h', g, dr, tk', os⟩ ∧ L2H.Six (.ref e) ⟨h', g, dr, tk', os⟩
  obtain ⟨oe, fv, hoe, hc, hd, hdat, h1, h2, h4⟩ := M.obj
  have ns := M.ns
  obtain ⟨G, g1, g2⟩ := restrict h' fun c => decide (c ≠ e)
  have gk : ∀ c, c ≠ e → G.get? c = h'.get? c := fun c z => g1 c (decide_eq_true z)
  have ge : G.get? e = none := g2 e (by simp)
  have old : ∀ c o, hp.get? c = some o → G.get? c = some o := fun c o z => (gk c (Nat.ne_of_lt (Nat.lt_of_lt_of_le (Heap.lt_size z) M.new))).trans (M.keep c o z)
  have ob : ObjOk X.prog X.w (upd H1 d (.xd [(("found" : Str), v)])) G d (.xd [(("found" : Str), v)]) :=
    ⟨_, ns.at (fun o z => (gk d M.ne).trans z), fun f => relO_found rv f⟩
  have J : Inv X pins σ (upd H1 d (.xd [(("found" : Str), v)])) ⟨G, g, dr, tk', os⟩ := I1.laid (t' := tk') old M.big ob
  refine ⟨⟨e, oe, fv, ⟨G, g, dr, tk', os⟩, _, .ref C, some d, rfl, J, fun c o z => ?_, ge, hoe, ⟨hc, hd, fun vs q => by rw [hdat] at q; cases q; exact h2⟩, hdat, h1, ?_, rfl, I1.bare, raises_own N.exC N.tyC, q1 d (I1.hok.fresh M.big)⟩, fun a' oe' vs' ea hg' hd' => ?_⟩
  · by_cases hce : c = e
    · have z' : G.get? c = some o := z
      rw [hce, ge] at z'
      exact nomatch z'
    · exact (gk c hce).symm.trans z
  · rw [upd_ne (Ne.symm M.ne)]
    exact I1.hok.fresh M.new
  · cases ea
    have z : h'.get? e = some oe' := hg'
    rw [hoe] at z; cases z
    rw [hdat] at hd'; cases hd'
    exact h4
theorem pmk_no {a : Expr} {ta : TA} {p pos : Pos} {k : Nat} (T : Tl nb newId initId tl) (N : NoC X.K X.mg C B fI newId initId bq b cq tl) (hm : X.mg cn = some (.ref C)) (hr : Rm k X.A)
    (hb1 : (b == ("__debug__" : Str)) = false) (hb2 : ¬ b = "self") (hb3 : ¬ b = "found") (ha : PA X [a] ta) (hg : Gl X cn := by rfl) (hdb : (cn == ("__debug__" : Str)) = false := by decide)
    (he : starEach (a :: []) X.env = (false, eval a X.env) :: starEach [] X.env := by rfl) (hpl : (backTo pos (starEach [] X.env)).any (·.1) = false := by rfl) :
    PMk X (.Call (.Name cn p) [a] [] pos) (tMkN C ta) := by
  intro pins s σ H Q I h
  refine thn (pmk_no5 T N hm (by have := hr.r.dp; omega) hb1 hb2 hb3 ha hg hdb he hpl pins s σ H Q I h) fun u s' x => ?_
  obtain ⟨⟨a, oe, vs, sI, H', cls, d, e1, J, k, hne, h1, hz, r⟩, _⟩ := x
  exact ⟨a, oe, vs, sI, H', cls, d, e1, J, k, hne, h1, hz.zc, r⟩
/-- raise X(e) -/
noncomputable def tRaiseN (C : Addr) (W : WX) (ta : TA) : TS := fun _ σ H => tMkN C ta σ H fun c d H' => W c d σ H'
theorem ps_raiseN {a : Expr} {ta : TA} {W : WX} {p pos pos2 : Pos} {k : Nat} (hc : X.calm = true) (tk : Takes X W) (T : Tl nb newId initId tl) (N : NoC X.K X.mg C B fI newId initId bq b cq tl) (hm : X.mg cn = some (.ref C)) (hr : Rm k X.A)
    (hb1 : (b == ("__debug__" : Str)) = false) (hb2 : ¬ b = "self") (hb3 : ¬ b = "found") (ha : PA X [a] ta) (hg : Gl X cn := by rfl) (hdb : (cn == ("__debug__" : Str)) = false := by decide)
    (he : starEach (a :: []) X.env = (false, eval a X.env) :: starEach [] X.env := by rfl) (hpl : (backTo pos (starEach [] X.env)).any (·.1) = false := by rfl) :
    PS X (.Raise (some (.Call (.Name cn p) [a] [] pos)) none pos2) (tRaiseN C W ta) := ps_raise hc tk (pmk_no T N hm hr hb1 hb2 hb3 ha hg hdb he hpl)
/-- e.found, e the exception that the suite holds -/
noncomputable def tFound (C : Addr) (a : Addr) (cls : Value) (d : Option Addr) (te : TE) : TE := fun σ H Q => te σ H fun x H1 => x = .ref a ∧ cls = .ref C ∧ ∃ (dd : Addr) (v : V), d = some dd ∧ H1 dd = some (.xd [(("found" : Str), v)]) ∧ Q v H1
theorem pe_found {a : Addr} {oe : Obj} {cls : Value} {d : Option Addr} {pn : List (Addr × Obj)} {e : Expr} {te : TE} {pos : Pos} (N : NoC X.K X.mg C B fI newId initId bq b cq tl) (hz : Zc cls d oe) (hf : ∃ vs, oe.data = .fields vs) (he : PE (X.suite a ((a, oe) :: pn)) e te)
    (hb : attributeBase e "found" X.env (eval e X.env) = eval e X.env := by rfl) : PE (X.suite a ((a, oe) :: pn)) (.Attribute e "found" pos) (tFound C a cls d te) := by
  constructor
  intro pins s σ H Q I h
  refine attr_of hb (thn (he.run pins s σ H _ I h) ?_)
  rintro u s1 ⟨x, H1, I1, rx, rfl, rfl, dd, v, rfl, ea, q⟩
  obtain rfl : u = Value.ref a := rx
  obtain ⟨ha, _⟩ := I1.pin (a, oe) (List.mem_append_left _ List.mem_cons_self)
  obtain ⟨vs, hd⟩ := hf
  obtain ⟨mA, hns, hr⟩ := (show ObjOk X.prog X.w H1 s1.heap dd (.xd [(("found" : Str), v)]) from I1.hok dd _ ea)
  obtain ⟨od, ho, hl⟩ := lookIn_ns hns
  have l : List.lookup ("found" : Str) [(("found" : Str), v)] = some v := by rw [lookup_put, if_pos rfl]
  obtain ⟨w', hu, ru⟩ := RelO.some_of (v := v) (o := mA "found") (by rw [← l]; exact hr "found")
  have J : PySem.W.InstAt s1.heap a oe C (some od) := ⟨ha, hz.1, by unfold PySem.W.notCls; rw [hd] <;> rfl, by rw [hz.2]; exact ho⟩
  refine PySem.HandSPX.exc_get I1.kIn J N.ga N.gg N.exC (PySem.W.findObj_own N.hdC N.noN rfl ?_) (handed_of ru) ⟨v, H1, I1.tok _, ru, q⟩
  rw [hl, hu]
end
end Gk
set_option maxRecDepth 100000
set_option maxHeartbeats 1000000
namespace Gk
open PySem PySem.Spec PyProof.Rows L2
noncomputable abbrev Cl := Value × Option Nat × (Addr → Value → Option Addr → TS)
/-- the named clause's name is gone behind its suite -/
noncomputable def clD (i : Nat) (D : Ends) : Ends :=
  { nx := fun σ H => D.nx (σ.set i none) H, rt := D.rt, bk := fun σ H => D.bk (σ.set i none) H, ct := fun σ H => D.ct (σ.set i none) H }
noncomputable def clGo (c : Cl) (a : Addr) (cls : Value) (d : Option Addr) (D : Ends) (σ : L2.St) (H : Hp) : Prop :=
  match c.2.1 with
  | none => c.2.2 a cls d D σ H
  | some i => c.2.2 a cls d (clD i D) (σ.set i (some (.ref a))) H
noncomputable def wCl (K : PySem.W.Frag) (Wo : WX) (D : Ends) : List Cl → WX
  | [] => Wo
  | c :: r => fun cls d σ H => ∃ b, PySem.W.exmOne K cls c.1 = some b ∧ (b = true → ∀ a, H a = none → clGo c a cls d D σ H) ∧ (b = false → wCl K Wo D r cls d σ H)
inductive ClsOk (X : Cx) : List ExceptHandler → List Cl → Prop
  | nil : ClsOk X [] []
  | plain {x : Str} {c : Value} {ts : Addr → Value → Option Addr → TS} {b0 : Stmt} {su : List Stmt} {np hp : Pos} {hs : List ExceptHandler} {l : List Cl} (hc : Names X x c)
      (hsu : ∀ (a : Addr) (oe : Obj) (cls : Value) (d : Option Addr) (pn : List (Addr × Obj)), Zc cls d oe → (∃ vs, oe.data = .fields vs) → PSs (X.suite a ((a, oe) :: pn)) (b0 :: su) (ts a cls d)) (r : ClsOk X hs l) :
      ClsOk X (.ExceptHandler (some (.Name x np)) none (b0 :: su) hp :: hs) ((c, none, ts) :: l)
  | named {x n : Str} {i : Nat} {c : Value} {ts : Addr → Value → Option Addr → TS} {b0 : Stmt} {su : List Stmt} {np hp : Pos} {hs : List ExceptHandler} {l : List Cl} (hi : X.N[i]? = some n) (hl : X.env.kindOf n = some .local) (hc : Names X x c)
      (hsu : ∀ (a : Addr) (oe : Obj) (cls : Value) (d : Option Addr) (pn : List (Addr × Obj)), Zc cls d oe → (∃ vs, oe.data = .fields vs) → PSs (X.suite a ((a, oe) :: pn)) (b0 :: su) (ts a cls d)) (r : ClsOk X hs l) :
      ClsOk X (.ExceptHandler (some (.Name x np)) (some n) (b0 :: su) hp :: hs) ((c, some i, ts) :: l)
section
variable {X : Cx} {body : List Stmt} {h0 : ExceptHandler} {hs : List ExceptHandler} {l : List Cl} {pos : Pos} {tb : WX → TS} {Wo : WX}
theorem SP.ofTry {pins pn' : List (Addr × Obj)} {xe : Value → Shared → Prop} {D : Ends} {f : Flow} {s : Shared} (ok : X.Ok) (h : SP (X.tr (X.pn ++ pins) xe) pn' D f s) : SP X pins D f s := by
  rcases f with _ | _ | _ | u
  · obtain ⟨a, b, J, q⟩ := h; exact ⟨a, b, J.ofTry ok, q⟩
  · obtain ⟨a, b, J, q⟩ := h; exact ⟨a, b, J.ofTry ok, q⟩
  · obtain ⟨a, b, J, q⟩ := h; exact ⟨a, b, J.ofTry ok, q⟩
  · obtain ⟨v, a, b, J, r, q⟩ := h; exact ⟨v, a, b, J.ofTry ok, r, q⟩
theorem SP.unsuite {pins pn' : List (Addr × Obj)} {a : Addr} {q : Addr × Obj} {D : Ends} {f : Flow} {s : Shared} (ok : X.Ok) (h : SP (X.suite a (q :: (X.pn ++ pins))) pn' D f s) : SP X pins D f s := by
  rcases f with _ | _ | _ | u
  · obtain ⟨x, b, J, q⟩ := h; exact ⟨x, b, J.unsuite ok, q⟩
  · obtain ⟨x, b, J, q⟩ := h; exact ⟨x, b, J.unsuite ok, q⟩
  · obtain ⟨x, b, J, q⟩ := h; exact ⟨x, b, J.unsuite ok, q⟩
  · obtain ⟨v, x, b, J, r, q⟩ := h; exact ⟨v, x, b, J.unsuite ok, r, q⟩
theorem ps_tryG (hst : X.stack = X.env :: X.outer) (hf : X.env.frame = some X.env.locals) (hN : X.N.Nodup) (tk : Takes X Wo)
    (hb : ∀ (W : WX) (pn : List (Addr × Obj)) (xe : Value → Shared → Prop), Takes (X.tr pn xe) W → PassesOwn (model X.prog X.w) X.A X.env xe → PSs (X.tr pn xe) body (tb W))
    (hh : ClsOk X (h0 :: hs) l) : PS X (.Try body (h0 :: hs) [] [] pos) (fun D σ H => tb (wCl X.K Wo D l) D σ H) := by
  constructor
  intro pins s σ H D I h
  have ok := I.ok
  have frm : X.A.frames = some (X.env :: X.outer) := by rw [ok.frames, hst]
  refine wpAny_Try_except (wpAny_mono ((hb (wCl X.K Wo D l) (X.pn ++ pins) _ ?_ PassesOwn.looking).run [] s σ H D (I.toTry _) h) ?_ fun _ _ z => z)
  · rintro u s' ⟨a, B, sI, pins', σ', H', cls, d, rfl, J', nb, up, sky, na, os, ag, wish⟩
    have J : Inv X pins σ' H' sI := J'.ofTry ok
    rw [show (X.tr (X.pn ++ pins) _).stack = X.env :: X.outer from hst] at sky
    show wpAny (model X.prog X.w) X.A (noteFrame (.ref a) X.env) _ _ _
    refine Sky.land Zc.steady frm hf sky fun h3 fl3 up3 => ?_
    have J3 : Inv X pins σ' H' { s' with heap := h3 } := J.landed nb fl3.1 (up.trans up3) os ag
    obtain ⟨oe3, vs3, he3, hz3, hd3⟩ := fl3.there
    have noFrame : a ∉ frs (X.env :: X.outer) := fun m => by
      obtain ⟨_, o', e', hnf⟩ := fl3.2.2.1.mem m
      rw [he3] at e'
      obtain rfl := Option.some.inj e'
      exact hnf _ hd3
    have nL : a ≠ X.env.locals := fun z => noFrame (List.mem_filterMap.mpr ⟨X.env, List.mem_cons_self, by rw [hf, z]⟩)
    have nF : a ∉ X.fs := fun m => by
      obtain ⟨v, hv, q⟩ := List.mem_filterMap.mp m
      exact noFrame (List.mem_filterMap.mpr ⟨v, List.mem_cons_of_mem _ hv, q⟩)
    have S3 := J3.suite he3 hd3 na nL nF
    have tyA : PySem.W.Looks (model X.prog X.w) h3 (typeOf (.ref a)) cls := fun A Q E s k q => wpAny_typeOf_ref (k _ _ he3) (by rw [hz3.1]; exact q)
    have asks : ∀ {x : Str} {c : Value} {np : Pos}, Names X x c → ∀ {Q : Value → Shared → Prop} {E : Value → Shared → Prop}, Q c { s' with heap := h3 } →
        wpAny (model X.prog X.w) (X.A.mark (some (.ref a))) (eval (.Name x np) X.env) Q E { s' with heap := h3 } := by
      rintro x c np ⟨hg, hdb, hm | ⟨hm, hv, hn⟩⟩ Q E q
      · exact ld_glob (X := X.suite a ((a, oe3) :: (X.pn ++ pins))) S3 hg hm q hdb
      · exact ld_blt (X := X.suite a ((a, oe3) :: (X.pn ++ pins))) S3 hg hm hv q hn hdb
    have going : ∀ {hs' : List ExceptHandler} {l' : List Cl}, ClsOk X hs' l' → wCl X.K Wo D l' cls d σ' H' → wpAny (model X.prog X.w) X.A (handleBy (.ref a) X.env hs') (SP X pins D) X.xe { s' with heap := h3 } := by
      intro hs' l' hk
      induction hk with
      | nil =>
        intro wo
        refine wpAny_handleBy_nil ?_
        obtain ⟨_, _, _, oe, vs, T, oT, ts', he, _, hd, h1, _⟩ := id fl3
        unfold PySem.passOn
        refine wpAny_bind (wpAny_field he hd h1 ?_)
        rw [if_neg (show ¬ ((Value.ref T == Value.none) = true) by simp)]
        have out : wpAny (model X.prog X.w) X.A (setFlight (.ref a) X.env.frame) (fun _ s4 => wpAny (model X.prog X.w) X.A (throw (.ref a) : Sem Flow) (SP X pins D) X.xe s4) X.xe { s' with heap := h3 } := by
          rw [hf]
          refine PySem.HandSPX.setFlight_upZ fl3 fun h4 hh4 up4 => wpAny_throw (tk _ _ ?_)
          exact ⟨a, B, sI, pins, σ', H', cls, d, rfl, J, nb, (up.trans up3).trans up4, .inr (.inr (by rw [hst]; exact hh4)), na, os, ag, wo⟩
        first
          | exact wpAny_bind (wpAny_pure (wpAny_bind out))
          | exact wpAny_bind out
      | @plain x c ts b0 su np hp hs2 l2 hc hsu r ih =>
        rintro ⟨b, hb1, yes, no⟩
        refine wpAny_handleBy_cons (codeAny_handlers_test (asks hc ((PySem.W.exm_one (M := model X.prog X.w) J3.kIn tyA hb1).here ?_))) (by intro q; cases q)
        cases b with
        | false => exact ih (no rfl)
        | true =>
          refine codeAny_handlers_suite (PySem.HandSPX.lands_againZ fl3 fun h4 fl4 up4 => ?_)
          have J4 : Inv X pins σ' H' { s' with heap := h4 } := J.landed nb fl4.1 ((up.trans up3).trans up4) os ag
          obtain ⟨oe4, vs4, he4, hz4, hd4⟩ := fl4.there
          exact wpAny_mono ((hsu a oe4 cls d (X.pn ++ pins) hz4 ⟨_, hd4⟩).run [] _ _ H' _ (J4.suite he4 hd4 na nL nF) (yes rfl a na)) (fun f s6 q => SP.unsuite ok q) (fun _ _ z => z.elim)
      | @named x n i c ts b0 su np hp hs2 l2 hi hl hc hsu r ih =>
        rintro ⟨b, hb1, yes, no⟩
        refine wpAny_handleBy_cons (codeAny_handlers_test (asks hc ((PySem.W.exm_one (M := model X.prog X.w) J3.kIn tyA hb1).here ?_))) (by intro q; cases q)
        cases b with
        | false => exact ih (no rfl)
        | true =>
          refine codeAny_handlers_suite_as (PySem.HandSPX.lands_againZ fl3 fun h4 fl4 up4 => ?_)
          have J4 : Inv X pins σ' H' { s' with heap := h4 } := J.landed nb fl4.1 ((up.trans up3).trans up4) os ag
          obtain ⟨oe4, vs4, he4, hz4, hd4⟩ := fl4.there
          refine store_ok (X := X.suite a ((a, oe4) :: (X.pn ++ pins))) (v := .ref a) (J4.suite he4 hd4 na nL nF) hN hi (.inl hl) rfl (fun s5 S5 => ?_) (.inr hl)
          refine wpAny_mono ((hsu a oe4 cls d (X.pn ++ pins) hz4 ⟨_, hd4⟩).run [] s5 _ H' _ S5 (yes rfl a na)) (fun f s6 q => ?_) (fun _ _ z => z.elim)
          have q' := SP.unsuite ok q
          have gone : ∀ {σ6 : L2.St} {H6 : Hp} {Q : Shared → Prop}, Inv X pins σ6 H6 s6 → (∀ s7, Inv X pins (σ6.set i none) H6 s7 → Q s7) →
              wpAny (model X.prog X.w) X.A (do bindName X.env n .none; unbindBehindTheSuite X.env n hp) (fun _ s7 => Q s7) X.xe s6 := fun S6 hq => gone_ok S6 hN hi hl hq
          rcases f with _ | _ | _ | u
          · obtain ⟨σ6, H6, S6, q6⟩ := q'
            exact gone S6 fun s7 J7 => ⟨_, _, J7, q6⟩
          · obtain ⟨σ6, H6, S6, q6⟩ := q'
            exact gone S6 fun s7 J7 => ⟨_, _, J7, q6⟩
          · obtain ⟨σ6, H6, S6, q6⟩ := q'
            exact gone S6 fun s7 J7 => ⟨_, _, J7, q6⟩
          · obtain ⟨v6, σ6, H6, S6, r6, q6⟩ := q'
            exact gone S6 fun s7 J7 => ⟨_, _, _, J7, r6, q6⟩
    exact going hh wish
  · intro f s1 q
    have q' := SP.ofTry ok q
    rcases f with _ | _ | _ | u
    · obtain ⟨x, b, J, z⟩ := q'; exact wpAny_execs_nil ⟨x, b, J, z⟩
    · exact q'
    · exact q'
    · exact q'
end
end Gk
set_option maxRecDepth 100000
set_option maxHeartbeats 1000000
namespace Gk
open PySem PySem.Spec PyProof.Rows L2
section
variable {X : Cx}
theorem OpR.imp {f : Value → Value → Sem Value} {r r' : R2} (h : OpR X f r) (i : ∀ x y H Q, r' x y H Q → r x y H Q) : OpR X f r' :=
  fun pins s σ H x y v u Q I rx ry q => h pins s σ H x y v u Q I rx ry (i _ _ _ _ q)
theorem CallR.imp {f : Value} {r r' : List V → Hp → VK → Prop} (h : CallR X f r) (i : ∀ xs H Q, r' xs H Q → r xs H Q) : CallR X f r' :=
  fun pins s σ H xs us Q I rv q => h pins s σ H xs us Q I rv (i _ _ _ q)
/-- lists: found in H or written -/
noncomputable def gAdd (K : PySem.W.Frag) : R2 := fun x y H Q => rI0 (fun i j => .int (i + j)) x y H Q ∨ (∃ i j, x = .str i ∧ y = .str j ∧ i.length + j.length ≤ sizeLine ∧ Q (.str (i ++ j)) H) ∨ rCat x y H Q ∨ rCatA K x y H Q
theorem op_gAdd : OpR X (binaryOp .Add) (gAdd X.K) := op_add.or (op_add_str.or (op_cat.or op_catA))
noncomputable def gMod : R2 := fun x y H Q => rI (fun _ j => 0 < j) (fun i j => .int (i % j)) x y H Q
noncomputable def gDiv : R2 := fun x y H Q => rI CDivW (fun i j => .int (i / j)) x y H Q
noncomputable def gMul (K : PySem.W.Frag) : R2 := fun x y H Q => rI CMul (fun i j => .int (i * j)) x y H Q ∨ rRep x y H Q
theorem op_gMul : OpR X (binaryOp .Mult) (gMul X.K) := op_mul.or op_rep
noncomputable def gEq (K : PySem.W.Frag) : R2 := fun x y H Q => rEq x y H Q ∨ rEqD K x y H Q
theorem op_gEq (hu : X.A.units + 64 < cLine) : OpR X (compareOp .Eq) (gEq X.K) := op_eq.or (op_eqD hu)
noncomputable def gNe (K : PySem.W.Frag) : R2 := fun x y H Q => rNe x y H Q ∨ rNeD K x y H Q
theorem op_gNe (hu : X.A.units + 64 < cLine) : OpR X (compareOp .NotEq) (gNe X.K) := op_ne.or (op_neD hu)
noncomputable def gLt (K : PySem.W.Frag) : R2 := fun x y H Q => rI0 (fun i j => .bl (decide (i < j))) x y H Q ∨ (∃ i j, x = .str i ∧ y = .str j ∧ Q (.bl (decide (i.cps.toList < j.cps.toList))) H)
theorem op_gLt : OpR X (compareOp .Lt) (gLt X.K) := op_lt.or op_lt_str
noncomputable def gLe (K : PySem.W.Frag) : R2 := fun x y H Q => rI0 (fun i j => .bl (decide (i ≤ j))) x y H Q
noncomputable def gGt (K : PySem.W.Frag) : R2 := fun x y H Q => rI0 (fun i j => .bl (decide (j < i))) x y H Q
/-- is None, is not None -/
noncomputable def gIs : R2 := fun x y H Q => y = .non ∧ Q (.bl (decide (x = .non))) H
noncomputable def gIsNot : R2 := fun x y H Q => y = .non ∧ Q (.bl (!decide (x = .non))) H
/-- in -/
noncomputable def gIn (K : PySem.W.Frag) : R2 := fun x y H Q => (∃ (c : Nat) (z : Str), x = .str ⟨#[c]⟩ ∧ y = .str z ∧ Q (.bl (decide (c ∈ z.cps.toList))) H) ∨ rIn K false x y H Q ∨ (∃ a o, y = .ref a ∧ DGet H a x o ∧ Q (.bl o.isSome) H)
theorem op_dIn (hu : X.A.units + 1 < cLine) : OpR X (compareOp .In) (fun x y H Q => ∃ a o, y = .ref a ∧ DGet H a x o ∧ Q (.bl o.isSome) H) := by
  rintro pins s σ H x y v u Q I rx ry ⟨a, o, rfl, g, q⟩
  obtain rfl : u = Value.ref a := ry
  exact d_in hu I g rx fun s3 I3 => ⟨.bl o.isSome, H, I3, rfl, q⟩
theorem op_gIn (hu : X.A.units + 1 < cLine) : OpR X (compareOp .In) (gIn X.K) := op_in_sign.or (op_in_seq.or (op_dIn hu))
/-- items -/
noncomputable def gIx (K : PySem.W.Frag) : R2 := fun x y H Q => rIx K x y H Q ∨ (∃ a v, x = .ref a ∧ DGet H a y (some v) ∧ Q v H)
theorem ix_dict (hu : X.A.units + 1 < cLine) : IxR X (fun x y H Q => ∃ a v, x = .ref a ∧ DGet H a y (some v) ∧ Q v H) := by
  rintro value slice pins s σ H x y v u Q I rx ry ⟨a, z, rfl, g, q⟩ hs
  obtain rfl : v = Value.ref a := rx
  exact tail_any (dict_typeIs I g) PySem.F.slot_dict_getitem.lookup (d_getItem hu I g ry fun w' s3 I3 rw' => ⟨z, H, I3, rw', q⟩) hs
theorem ix_g (hu : X.A.units + 1 < cLine) : IxR X (gIx X.K) := ix_seq.or (ix_dict hu)
noncomputable def gSl (K : PySem.W.Frag) : V → Option Int → Option Int → Hp → VK → Prop := fun x lo hi H Q => rSlS x lo hi H Q ∨ rSlL K x lo hi H Q ∨ rSlA K x lo hi H Q
theorem sl_g : SlR X (gSl X.K) := sl_str.or (sl_list.or sl_tupA)
/-- o[i] = v -/
noncomputable def gSet : TSet := fun o i v H Q => rSetL o i v H Q ∨ ∃ a H', o = .ref a ∧ DPut H a i v H' ∧ Q H'
theorem PSet.or {t t' : TSet} (h : PSet X t) (h' : PSet X t') : PSet X (fun o i v H Q => t o i v H Q ∨ t' o i v H Q) := by
  intro pins s σ H o i v ov iv u Q I r1 r2 r3 q
  rcases q with q | q
  · exact h pins s σ H o i v ov iv u Q I r1 r2 r3 q
  · exact h' pins s σ H o i v ov iv u Q I r1 r2 r3 q
theorem set_g (hu : X.A.units + 1 < cLine) : PSet X gSet := PSet.or set_list (set_dict hu)
/-- what is walked -/
theorem PI.or {tg l : Expr} {w1 w2 : TI} (h : PI X tg l w1) (h' : PI X tg l w2) : PI X tg l (fun σ H R => w1 σ H R ∨ w2 σ H R) := by
  constructor
  intro pins s σ H R I q
  rcases q with q | q
  · exact h.run pins s σ H R I q
  · exact h'.run pins s σ H R I q
noncomputable def iG (K : PySem.W.Frag) (tl : TE) : TI := fun σ H R => iList K tl σ H R ∨ iTup K tl σ H R ∨ iStr tl σ H R
theorem pi_g {tg l : Expr} {tl : TE} (h : PE X l tl) : PI X tg l (iG X.K tl) := PI.or (pi_list h) (PI.or (pi_tup h) (pi_str h))
/-- calls of built-ins by values -/
noncomputable def gList (K : PySem.W.Frag) : List V → Hp → VK → Prop := fun xs H Q => (∃ p ys, xs = [.ref p] ∧ (SqL K H p ys ∨ SqT K H p ys) ∧ ∀ l, H l = none → Q (.ref l) (upd H l (.lst ys))) ∨
  (∃ (a : Addr) (kvs : List (Key × V)), xs = [.ref a] ∧ Rd H a (.dK kvs) ∧ ∀ p, H p = none → Q (.ref p) (upd H p (.lst (kvs.map fun kv => kV kv.1))))
theorem call_gList (hc : X.calm = true) : CallR X (.type "list") (gList X.K) := call_list_of.or (call_listD hc)
theorem call_lenR : CallR X (.builtin "len") (fun xs H Q => ∃ a kvs, xs = [V.ref a] ∧ Rd H a (.dK kvs) ∧ Q (.int kvs.length) H) := by
  intro pins s σ H xs us Q I r h
  obtain ⟨a, kvs, rfl, ha, q⟩ := h
  obtain ⟨u, rfl, ru⟩ := vals1 r
  cases ru
  exact d_len I ha fun t s' I' => ⟨.int kvs.length, H, I', ⟨t, rfl⟩, q⟩
noncomputable def gLen (K : PySem.W.Frag) : List V → Hp → VK → Prop := fun xs H Q => (∃ x n, xs = [x] ∧ LenV K x H n ∧ Q (.int n) H) ∨ (∃ a kvs, xs = [V.ref a] ∧ Rd H a (.dK kvs) ∧ Q (.int kvs.length) H)
theorem call_gLen : CallR X (.builtin "len") (gLen X.K) := call_len.or call_lenR
noncomputable def gIsi (K : PySem.W.Frag) : List V → Hp → VK → Prop := fun xs H Q => rIsi K xs H Q ∨ rIsiT K xs H Q
theorem call_gIsi : CallR X (.builtin "isinstance") (gIsi X.K) := call_isi.or call_isiT
end
end Gk
set_option maxRecDepth 100000
set_option maxHeartbeats 1000000
namespace Gk
open PySem PySem.Spec PyProof.Rows L2
section
variable {K : PySem.W.Frag} {X : Cx} {σ σ' : L2.St} {H : Hp} {Q : VK} {D : Ends} {i : Nat} {v x y : V} {ta tb tc te : TE} {tt tu : TT} {t u : TS} {tA tB' : TA} {r r' : R2} {L : List Cell} {R : List (List V × List T)} {W : WX} {sp : Sp} {dvs : List V} {g : TG} {QT : Bool → Hp → Prop} {b : Bool} {QA : List V → Hp → Prop}
noncomputable def tTruG (K : PySem.W.Frag) (ta : TE) : TT := fun σ H Q => ta σ H fun x H' => ∃ k, TruV K x H' k ∧ Q k H'
theorem pt_tru {a : Expr} (ha : PE X a ta) (he : ∀ whole, isTrue a X.env whole = (do let v ← whole; standAt a.pos; holding [v] (truthy v)) := by intro _; rfl) : PT X a (tTruG X.K ta) := pt_truth ha he
theorem w_addI {i j : Int} (q : Q (.int (i + j)) H) : gAdd K (.int i) (.int j) H Q := .inl ⟨i, j, rfl, rfl, q⟩
theorem w_addS {i j : Str} (sz : i.length + j.length ≤ sizeLine) (q : Q (.str (i ++ j)) H) : gAdd K (.str i) (.str j) H Q := .inr (.inl ⟨i, j, rfl, rfl, sz, q⟩)
theorem w_mulI {i j : Int} (c : CMul i j) (q : Q (.int (i * j)) H) : gMul K (.int i) (.int j) H Q := .inl ⟨i, j, rfl, rfl, c, q⟩
theorem w_modI {i j : Int} (c : 0 < j) (q : Q (.int (i % j)) H) : gMod (.int i) (.int j) H Q := ⟨i, j, rfl, rfl, c, q⟩
theorem w_divI {i j : Int} (c : CDivW i j) (q : Q (.int (i / j)) H) : gDiv (.int i) (.int j) H Q := ⟨i, j, rfl, rfl, c, q⟩
theorem w_powI {i j : Int} (c : CPow i j) (q : Q (.int (i ^ j.toNat)) H) : rI CPow (fun i j => .int (i ^ j.toNat)) (.int i) (.int j) H Q := ⟨i, j, rfl, rfl, c, q⟩
theorem w_ltI {i j : Int} (q : Q (.bl (decide (i < j))) H) : gLt K (.int i) (.int j) H Q := .inl ⟨i, j, rfl, rfl, q⟩
theorem w_ltS {i j : Str} (q : Q (.bl (decide (i.cps.toList < j.cps.toList))) H) : gLt K (.str i) (.str j) H Q := .inr ⟨i, j, rfl, rfl, q⟩
theorem w_leI {i j : Int} (q : Q (.bl (decide (i ≤ j))) H) : gLe K (.int i) (.int j) H Q := ⟨i, j, rfl, rfl, q⟩
theorem w_gtI {i j : Int} (q : Q (.bl (decide (j < i))) H) : gGt K (.int i) (.int j) H Q := ⟨i, j, rfl, rfl, q⟩
theorem w_ixL {p : Addr} {xs : List V} {i : Int} (h : SqL K H p xs) (e : atI xs i = some v) (q : Q v H) : gIx K (.ref p) (.int i) H Q := .inl (.inl ⟨p, xs, i, v, rfl, rfl, h, e, q⟩)
theorem w_ixT {p : Addr} {xs : List V} {i : Int} (h : SqT K H p xs) (e : atI xs i = some v) (q : Q v H) : gIx K (.ref p) (.int i) H Q := .inl (.inr (.inl ⟨p, xs, i, v, rfl, rfl, h, e, q⟩))
theorem w_ixS {z : Str} {i : Int} {c : Nat} (sz : z.length ≤ sizeLine) (e : atI z.cps.toList i = some c) (q : Q (.str ⟨#[c]⟩) H) : gIx K (.str z) (.int i) H Q := .inl (.inr (.inr ⟨z, i, c, rfl, rfl, sz, e, q⟩))
theorem w_lenS {z : Str} (sz : z.length ≤ sizeLine) (q : Q (.int z.length) H) : gLen K [.str z] H Q := .inl ⟨_, _, rfl, ⟨sz, rfl⟩, q⟩
theorem w_lenL {p : Addr} {xs : List V} (h : SqL K H p xs) (q : Q (.int xs.length) H) : gLen K [.ref p] H Q := .inl ⟨_, _, rfl, .inl ⟨xs, h, rfl⟩, q⟩
theorem w_lenT {p : Addr} {xs : List V} (h : SqT K H p xs) (q : Q (.int xs.length) H) : gLen K [.ref p] H Q := .inl ⟨_, _, rfl, .inr ⟨xs, h, rfl⟩, q⟩
end
end Gk
set_option maxRecDepth 100000
set_option maxHeartbeats 1000000
namespace Gk
open PySem PySem.Spec PyProof.Rows L2
noncomputable def RawF (K : PySem.W.Frag) (mg : Str → Option Value) (x : Str) (st : Stmt) : Prop := ∃ f fd, L2.Fun K x x st f fd ∧ mg x = some (.ref f)
theorem raw_mk {K : PySem.W.Frag} {h : Heap} {mg : Str → Option Value} {x : Str} {st : Stmt} {f : Addr} {oc : Value} {od an : Option Addr} {osl : Array (Option Value)} {kV dc pm cd ct : Value} (kin : K.In h) (g : h.Ns mainGlobals mg)
    (a : PySem.W.nsIn K mainGlobals x = some (some (.ref f))) (l : K.lookup f = some ⟨oc, od, .func (PySem.W.fnOf x x (defArgs st) (defBody st) (defScope st) .none kV dc pm an cd ct), osl⟩)
    (c : PySem.W.codeIn K cd x = true) (k : PySem.W.keepIn K (.ref f) = true) : RawF K mg x st := ⟨f, _, fun_mk l c k, PySem.W.mg_of kin g a⟩
structure Cal (P : Program) (w : World) (K : PySem.W.Frag) (mg : Str → Option Value) (base : Heap) (x : Str) (k : Nat) (ps : List Str) (dvs : List V) (sp : Sp) : Prop where
  ex : ∃ f fd ds, mg x = some (.ref f) ∧ PySem.W.keepIn K (.ref f) = true ∧ L2.Binds K fd ps ds ∧ Vals dvs ds ∧ FnG P w K mg base k f fd ps sp
noncomputable abbrev CalX (X : Cx) (x : Str) (k : Nat) (ps : List Str) (dvs : List V) (sp : Sp) : Prop := Cal X.prog X.w X.K X.mg X.base x k ps dvs sp
section
variable {P : Program} {w : World} {K : PySem.W.Frag} {mg : Str → Option Value} {base : Heap} {k j : Nat} {x : Str} {st : Stmt} {N ps : List Str} {dvs : List V} {sp sp' : Sp}
theorem Cal.imp (c : Cal P w K mg base x k ps dvs sp) (h : ∀ vs H Q E, sp' vs H Q E → sp vs H Q E) : Cal P w K mg base x k ps dvs sp' := by
  obtain ⟨f, fd, ds, a, b, d, e, F⟩ := c
  exact ⟨f, fd, ds, a, b, d, e, F.imp h⟩
theorem Cal.mk' (raw : RawF K mg x st) (Sc : FnScope N ps (defScope st)) (len : ∀ vs H Q E, sp vs H Q E → vs.length = ps.length)
    (bind : ∀ (kV doc pm : Value) (an : Option Addr) (cdv ct : Value) (us : List Value), us.length = ps.length → bindArgs (PySem.W.fnOf x x (defArgs st) (defBody st) (defScope st) .none kV doc pm an cdv ct) ⟨us, []⟩ = pure (ps.zip us))
    (hb : ∀ (f : Addr) (cd : Value) (A : Around) (out : List Env) (s : Shared) (H : Hp) (vs : List V) (Q : VK) (E : XK), Rm k (A.deeper (envOfC x (defScope st) s.heap.objs.size f cd)) → sp vs H Q E →
      ∃ t, PSs (cxG P w K mg base N x (defScope st) f cd A out s H E) (defBody st) t ∧ t { nx := fun _ H' => Q .non H', rt := Q } (start N vs) H) : Cal P w K mg base x (k + 1) ps [] sp := by
  obtain ⟨f, fd, F, hm⟩ := raw
  exact ⟨f, fd, [], hm, F.kp, F.binds bind, .nil, Fun.okG F Sc len (fun cd A out s H vs Q E rm h => hb f cd A out s H vs Q E rm h)⟩
end
section
variable {X : Cx} {x : Str} {k : Nat} {ps : List Str} {dvs : List V} {sp : Sp} {W : WX} {p pos : Pos} {e : Expr} {es : List Expr} {t : TA}
theorem pe_cal (c : CalX X x k ps dvs sp) (rm : Rm k X.A) (tk : Takes X W) (ha : PA X (e :: es) t)
    (hg : Gl X x := by rfl) (hdb : (x == ("__debug__" : Str)) = false := by decide) (he : starEach (e :: es) X.env = (false, eval e X.env) :: starEach es X.env := by rfl) (hpl : (backTo pos (starEach es X.env)).any (·.1) = false := by rfl) :
    PE X (.Call (.Name x p) (e :: es) [] pos) (tG sp dvs W t) := by
  obtain ⟨f, fd, ds, a, b, d, e', F⟩ := c
  exact pe_g F rm tk a b d e' ha hg hdb he hpl
/-- the module's texts and numbers -/
theorem pe_gs {z : Str} (h : ∃ t, X.mg x = some (.str z t)) (hg : Gl X x := by rfl) (hd : (x == ("__debug__" : Str)) = false := by decide) : PE X (.Name x pos) (tC (.str z)) := by
  obtain ⟨u, h⟩ := h
  exact pe_glob hg h ⟨_, rfl⟩ hd
theorem pe_gi {z : Int} (h : ∃ t, X.mg x = some (.int z t)) (hg : Gl X x := by rfl) (hd : (x == ("__debug__" : Str)) = false := by decide) : PE X (.Name x pos) (tC (.int z)) := by
  obtain ⟨u, h⟩ := h
  exact pe_glob hg h ⟨_, rfl⟩ hd
theorem pe_ty {T : String} (hm : X.mg x = none) (hv : bootBuiltins x = some (.type T)) (hg : Gl X x := by rfl) (hn : x ≠ "__name__" := by decide) (hd : (x == ("__debug__" : Str)) = false := by decide) : PE X (.Name x pos) (tC (.ty T)) := pe_bltn hg hm hv rfl hn hd
end
section
variable {X : Cx} {K : PySem.W.Frag}
/-- the same, said of K -/
theorem op_k {f : Value → Value → Sem Value} (r : PySem.W.Frag → R2) (K : PySem.W.Frag) (e : X.K = K) (h : OpR X f (r X.K)) : OpR X f (r K) := e ▸ h
theorem ix_k (r : PySem.W.Frag → R2) (K : PySem.W.Frag) (e : X.K = K) (h : IxR X (r X.K)) : IxR X (r K) := e ▸ h
theorem sl_k (r : PySem.W.Frag → V → Option Int → Option Int → Hp → VK → Prop) (K : PySem.W.Frag) (e : X.K = K) (h : SlR X (r X.K)) : SlR X (r K) := e ▸ h
theorem cr_k {f : Value} (r : PySem.W.Frag → List V → Hp → VK → Prop) (K : PySem.W.Frag) (e : X.K = K) (h : CallR X f (r X.K)) : CallR X f (r K) := e ▸ h
theorem pt_truk {a : Expr} {ta : TE} (e : X.K = K) (h : PT X a (tTruG X.K ta)) : PT X a (tTruG K ta) := e ▸ h
theorem bm_k {x : Expr} {T : String} {r : V → List V → Hp → VK → Prop} {te : TE} {tA : TA} (e : X.K = K) (h : PE X x (tBM X.K T r te tA)) : PE X x (tBM K T r te tA) := e ▸ h
theorem pi_k {tg l : Expr} {tl : TE} (e : X.K = K) (h : PI X tg l (iG X.K tl)) : PI X tg l (iG K tl) := e ▸ h
end
section
variable {X : Cx}
noncomputable def gMinus : R2 := rI0 (fun i j => .int (i - j))
theorem op_gMinus : OpR X (binaryOp .Sub) gMinus := op_sub
theorem op_gMod : OpR X (binaryOp .Mod) gMod := op_mod
theorem op_gDiv : OpR X (binaryOp .FloorDiv) gDiv := op_fdivW
noncomputable def gPow : R2 := rI CPow fun i j => .int (i ^ j.toNat)
theorem op_gPow : OpR X (binaryOp .Pow) gPow := op_pow
theorem op_gLe : OpR X (compareOp .LtE) (gLe X.K) := op_le
theorem op_gGt : OpR X (compareOp .Gt) (gGt X.K) := op_gt
theorem op_gIs : OpR X (compareOp .Is) gIs := op_isN
theorem op_gIsNot : OpR X (compareOp .IsNot) gIsNot := op_notN
noncomputable def gNeg : V → Hp → VK → Prop := rU fun i => .int (-i)
theorem un_gNeg : UnR X (unaryOp .USub) gNeg := un_neg
noncomputable def gMax : List V → Hp → VK → Prop := fun xs H Q => ∃ i j, xs = [.int i, .int j] ∧ Q (.int (max i j)) H
noncomputable def gMin : List V → Hp → VK → Prop := fun xs H Q => ∃ i j, xs = [.int i, .int j] ∧ Q (.int (min i j)) H
theorem call_gMax (hc : X.calm = true) : CallR X (.builtin "max") gMax := CallR.imp (call_max2 hc) fun xs H Q ⟨i, j, e, q⟩ => ⟨i, j, e, by rw [show (if j > i then j else i) = max i j by split <;> omega]; exact q⟩
theorem call_gMin (hc : X.calm = true) : CallR X (.builtin "min") gMin := CallR.imp (call_min2 hc) fun xs H Q ⟨i, j, e, q⟩ => ⟨i, j, e, by rw [show (if j < i then j else i) = min i j by split <;> omega]; exact q⟩
variable {σ : L2.St} {H : Hp} {Q : VK} {K : PySem.W.Frag} {L : List Cell} {R : List (List V × List T)}
end
end Gk
namespace Gk
open PySem PySem.Spec PyProof.Rows L2
/-- what «except D» says of an error of the class at C -/
theorem exm_mk {K : PySem.W.Frag} {C D : Addr} {b : Bool} (h1 : PySem.W.subIn K (.ref D) (.type "BaseException") = some true) (h2 : PySem.W.isClsIn K D = true) (h3 : PySem.W.typeIn K (.ref D) = some (.type "type"))
    (h4 : PySem.W.subIn K (.ref C) (.ref D) = some b) : PySem.W.exmOne K (.ref C) (.ref D) = some b := by
  have a1 : (PySem.W.subIn K (.ref D) (.type "BaseException") == some true) = true := by rw [h1] <;> rfl
  have a2 : ((PySem.W.clsIn K D).isSome && PySem.W.typeIn K (.ref D) == some (.type "type")) = true := by
    have z : (PySem.W.clsIn K D).isSome = true := h2
    rw [z, h3] <;> rfl
  show (if (PySem.W.subIn K (.ref D) (.type "BaseException") == some true) = true then (if ((PySem.W.clsIn K D).isSome && PySem.W.typeIn K (.ref D) == some (.type "type")) = true then PySem.W.subIn K (.ref C) (.ref D) else none) else none) = some b
  rw [if_pos a1, if_pos a2]
  exact h4
end Gk
set_option maxRecDepth 100000
set_option maxHeartbeats 1000000
namespace Gk
open PySem PySem.Spec PyProof.Rows L2
theorem law_end {P : Program} {w : World} {K : PySem.W.Frag} {mg : Str → Option Value} {k : Nat} {fa : Addr} {x : Str} {st : Stmt} {sp : Sp} (raw : RawF K mg "law" st) (hfa : mg "law" = some (.ref fa))
    (bind : ∀ (kV doc pm : Value) (an : Option Addr) (cdv ct : Value) (us : List Value), us.length = ([x] : List Str).length → bindArgs (PySem.W.fnOf "law" "law" (defArgs st) (defBody st) (defScope st) .none kV doc pm an cdv ct) ⟨us, []⟩ = pure (([x] : List Str).zip us))
    (hb : ∀ (base : Heap), BaseM base → ∀ (f : Addr) (fd : FuncData), L2.Fun K "law" "law" st f fd → FnG P w K mg base k f fd [x] sp) :
    ∃ fd : FuncData, (∀ (s : Shared) (u : Value), BindsTo s fd ⟨[u], []⟩ [(x, u)]) ∧ ∀ base : Heap, K.In base → base.Ns mainGlobals mg → BaseM base → FnG P w K mg base k fa fd [x] sp := by
  obtain ⟨f, fd, F, hm⟩ := raw
  obtain rfl : fa = f := by rw [hfa] at hm; cases hm; rfl
  obtain ⟨oc, od, kV, dc, pm, an, cd, ct, osl, e0, lk, hc⟩ := id F.ex
  subst e0
  exact ⟨_, fun s u => .of_eq (bind kV dc pm an cd ct [u] rfl), fun base _ _ bm => hb base bm _ _ F⟩
theorem tkG {P : Program} {w : World} {K : PySem.W.Frag} {mg : Str → Option Value} {base : Heap} {N : List Str} {qual : Str} {scope : Scope} {f : Addr} {cd : Value} {A : Around} {out : List Env} {sh : Shared} {H : Hp} {E : XK} :
    Takes (cxG P w K mg base N qual scope f cd A out sh H E) (fun c d _ H => E c d H) := takes_of rfl rfl rfl rfl
theorem poG {P : Program} {w : World} {K : PySem.W.Frag} {mg : Str → Option Value} {base : Heap} {N : List Str} {qual : Str} {scope : Scope} {f : Addr} {cd : Value} {A : Around} {out : List Env} {sh : Shared} {H : Hp} {E : XK} :
    PassesOwn (model P w) (cxG P w K mg base N qual scope f cd A out sh H E).A (cxG P w K mg base N qual scope f cd A out sh H E).env (cxG P w K mg base N qual scope f cd A out sh H E).xe := passes_of rfl
theorem w_div {H : Hp} {Q : VK} {i j : Int} (h0 : 0 < j) (h1 : j < 2 ^ 200) (q : Q (.int (i / j)) H) : gDiv (.int i) (.int j) H Q := w_divI (wide_div (b := 200) h0 (by omega) (by decide) (by decide)) q
theorem atI_of {α : Type} {xs : List α} {k : Int} (h0 : 0 ≤ k) (h : k < xs.length) : ∃ c, atI xs k = some c ∧ xs[k.toNat]? = some c := by
  have hk : k.toNat < xs.length := by omega
  refine ⟨xs[k.toNat], ?_, List.getElem?_eq_getElem hk⟩
  have e : ((k.toNat : Nat) : Int) = k := by omega
  have z := atI_nat (List.getElem?_eq_getElem hk)
  rw [e] at z
  exact z
theorem atI_map {α : Type} {f : α → V} {xs : List α} {k : Int} (h0 : 0 ≤ k) (h : k < xs.length) : ∃ c, atI (xs.map f) k = some (f c) ∧ xs[k.toNat]? = some c := by
  obtain ⟨v, h1, h2⟩ := atI_of (xs := xs.map f) h0 (by simpa using h)
  rw [List.getElem?_map] at h2
  cases e : xs[k.toNat]? with
  | none => rw [e] at h2; cases h2
  | some c => rw [e] at h2; exact ⟨c, by rw [h1]; exact h2.symm, rfl⟩
structure Bx (o : HO) (m : Nat) : Prop where
  ex : ∃ x y z : Int, o = .lst [.int x, .int y, .int z] ∧ 0 ≤ x ∧ 0 ≤ y ∧ y < 2147483648 ∧ 0 ≤ z ∧ z ≤ m
theorem Bx.mono {o : HO} {m n : Nat} (b : Bx o m) (h : m ≤ n) : Bx o n := by
  obtain ⟨x, y, z, e, a, c, d, f, g⟩ := b
  exact ⟨x, y, z, e, a, c, d, f, by omega⟩
end Gk
set_option maxRecDepth 100000
set_option maxHeartbeats 1000000
namespace Gk
open PySem PySem.Spec PyProof.Rows L2
mutual
inductive Dd (K : PySem.W.Frag) (H : Hp) : V → PyData → Prop
  | non : Dd K H .non .none
  | bl (b : Bool) : Dd K H (.bl b) (.bool b)
  | int (i : Int) : Dd K H (.int i) (.int i)
  | str (x : Str) : Dd K H (.str x) (.str x)
  | lst {a : Addr} {xs : List V} {ds : List PyData} : SqL K H a xs → DdA K H xs ds → Dd K H (.ref a) (.list ds)
  | tup {a : Addr} {xs : List V} {ds : List PyData} : SqT K H a xs → DdA K H xs ds → Dd K H (.ref a) (.tuple ds)
  | dct {a : Addr} {kvs : List (Key × V)} {ks vs : List PyData} : Rd H a (.dK kvs) → DdA K H (kvs.map fun p => kV p.1) ks → DdA K H (kvs.map (·.2)) vs → Dd K H (.ref a) (.dict (ks.zip vs))
inductive DdA (K : PySem.W.Frag) (H : Hp) : List V → List PyData → Prop
  | nil : DdA K H [] []
  | cons {v : V} {vs : List V} {d : PyData} {ds : List PyData} : Dd K H v d → DdA K H vs ds → DdA K H (v :: vs) (d :: ds)
end
theorem DdA.length {K : PySem.W.Frag} {H : Hp} : ∀ {vs : List V} {ds : List PyData}, DdA K H vs ds → vs.length = ds.length
  | _, _, .nil => rfl
  | _, _, .cons _ a => congrArg (· + 1) a.length
theorem keyV {P : Program} {w : World} {k : Key} {u : Value} (h : (mixKind P w).is k u = true) : RelV (kV k) u := by
  rcases keyIs_shape (show keyIs k u = true from h) with ⟨i, t, rfl, rfl⟩ | ⟨x, t, rfl, rfl⟩
  · exact ⟨t, rfl⟩
  · exact ⟨t, rfl⟩
theorem pairs_vals {P : Program} {w : World} : ∀ {es : List DictEntry} {kvs : List (Key × V)} {us : List (Key × Value)}, Pairs (mixKind P w) es us → KV kvs us →
    Vals (kvs.map fun p => kV p.1) (es.map (·.key)) ∧ Vals (kvs.map (·.2)) (es.map (·.val))
  | _, _, _, .nil, .nil => ⟨.nil, .nil⟩
  | _, _, _, .cons hk hv r, .cons q t => by
    obtain ⟨a, b⟩ := pairs_vals r t
    obtain ⟨q1, q2⟩ := q
    refine ⟨.cons ?_ a, .cons ?_ b⟩
    · show RelV (kV _) _; rw [q1]; exact keyV hk
    · have z := q2
      rw [← hv] at z
      exact z
section
variable {X : Cx} {pins : List (Addr × Obj)} {σ : L2.St} {H : Hp} {s : Shared}
theorem ne_sys (I : Inv X pins σ H s) (bm : BaseM X.base) {a : Addr} {xs : List V} (h : SqL X.K H a xs) : sysModules ≠ a := by
  rintro rfl
  obtain ⟨o, es, ep, z, d⟩ := bm
  rcases h with h | ⟨o', its, n, hk, _, _, hd, _⟩
  · have n0 := (I.bs _ _ z).2
    rcases h with h | ⟨_, h⟩ <;> (rw [n0] at h; cases h)
  · have z' := I.ok.mod.kin _ _ hk
    rw [z] at z'; cases z'; rw [d] at hd; cases hd
mutual
theorem Dd.reads (I : Inv X pins σ H s) (bm : BaseM X.base) : ∀ {v : V} {d : PyData}, Dd X.K H v d → ∀ (u : Value), RelV v u → ∃ as, Reads s.heap u d as ∧ sysModules ∉ as
  | _, _, .non, u, r => by obtain rfl : u = Value.none := r; exact ⟨_, .none, by simp⟩
  | _, _, .bl b, u, r => by obtain rfl : u = Value.bool b := r; exact ⟨_, .bool b, by simp⟩
  | _, _, .int i, _, ⟨t, e⟩ => by subst e; exact ⟨_, .int i t, by simp⟩
  | _, _, .str x, _, ⟨t, e⟩ => by subst e; exact ⟨_, .str x t, by simp⟩
  | _, _, .lst (a := a) h ha, u, r => by
    obtain rfl : u = Value.ref a := r
    obtain ⟨its, rv, ⟨o, n, e, c, _, d⟩, _⟩ := I.list h
    obtain ⟨as, q, nn⟩ := Dd.readsA I bm ha its rv
    exact ⟨_, .list e c d (by simpa using q), by rw [List.mem_cons]; exact fun z => z.elim (ne_sys I bm h) nn⟩
  | _, _, .tup (a := a) h ha, u, r => by
    obtain rfl : u = Value.ref a := r
    obtain ⟨its, rv, ⟨o, e, c, n, d⟩, _⟩ := I.tuple h
    obtain ⟨as, q, nn⟩ := Dd.readsA I bm ha its rv
    exact ⟨_, .tuple e c d (by simpa using q), nn⟩
  | _, _, .dct (a := a) (kvs := kvs) (ks := ks) (vs := vs) h hk hv, u, r => by
    obtain rfl : u = Value.ref a := r
    obtain ⟨_, ns, us, rel, o, es, ep, e, ex, d, _, pr, _⟩ := (show ObjOk X.prog X.w H s.heap a (.dK kvs) from h.elim (fun q => I.hok a _ q) (fun q => q.elim fun _ q => (I.hok a _ q).2))
    obtain ⟨r1, r2⟩ := pairs_vals pr rel
    have l1 := hk.length
    have l2 := hv.length
    rw [List.length_map] at l1 l2
    have e1 : (ks.zip vs).map (·.1) = ks := List.map_fst_zip (by omega)
    have e2 : (ks.zip vs).map (·.2) = vs := List.map_snd_zip (by omega)
    obtain ⟨as, q1, n1⟩ := Dd.readsA I bm hk _ r1
    obtain ⟨bs, q2, n2⟩ := Dd.readsA I bm hv _ r2
    refine ⟨_, .dict e ex.1 d (by rw [e1]; exact q1) (by rw [e2]; exact q2), ?_⟩
    have na : sysModules ≠ a := fun z => by rw [← z] at ns; simp at ns
    simp [na, n1, n2]
theorem Dd.readsA (I : Inv X pins σ H s) (bm : BaseM X.base) : ∀ {vs : List V} {ds : List PyData}, DdA X.K H vs ds → ∀ (us : List Value), Vals vs us → ∃ as, ReadsAll s.heap us ds as ∧ sysModules ∉ as
  | _, _, .nil, _, .nil => ⟨_, .nil, by simp⟩
  | _, _, .cons h1 h2, _, .cons r1 r2 => by
    obtain ⟨as, q1, n1⟩ := Dd.reads I bm h1 _ r1
    obtain ⟨bs, q2, n2⟩ := Dd.readsA I bm h2 _ r2
    exact ⟨_, .cons q1 q2, by simp [n1, n2]⟩
end
/-- repr of data -/
noncomputable def gRepr (K : PySem.W.Frag) : List V → Hp → VK → Prop := fun xs H Q => ∃ x d, xs = [x] ∧ Dd K H x d ∧ d.showable = true ∧ d.depth ≤ 40 ∧ d.shown.length ≤ sizeLine ∧ Q (.str d.shown) H
theorem call_gRepr (bm : BaseM X.base) (hg : X.A.guards = some []) (hu : X.A.units + 64 < cLine) : CallR X (.builtin "repr") (gRepr X.K) := by
  rintro pins s σ H xs us Q I rv ⟨x, d, rfl, dp, sh, dep, sz, q⟩
  obtain ⟨u, rfl, ru⟩ := vals1 rv
  obtain ⟨as, rd, ns⟩ := dp.reads I bm u ru
  cases rd with
  | none => exact PySem.P.repr_of_none ⟨.str _, H, I.tok _, ⟨_, rfl⟩, q⟩
  | bool b => exact PySem.P.repr_of_bool ⟨.str _, H, I.tok _, ⟨s.toks, by simp only [PyData.shown]⟩, q⟩
  | int i t => exact PySem.P.repr_of_int (by simpa [PyData.showable] using sh) ⟨.str _, H, I.tok _, ⟨s.toks, by simp only [PyData.shown]⟩, q⟩
  | str y t => exact PySem.P.repr_of_str ⟨.str _, H, I.tok _, ⟨s.toks, by simp only [PyData.shown]⟩, q⟩ (by simpa only [PyData.shown] using sz)
  | list h1 h2 h3 h4 => exact repr_of_reads' (.list h1 h2 h3 h4) sh (fun _ => ns) hg (by omega) (fun _ _ z => z) (fun h' u' tk kp => ⟨.str _, H, I.kept (t' := tk) kp, ⟨_, rfl⟩, q⟩) sz
  | tuple h1 h2 h3 h4 => exact repr_of_reads' (.tuple h1 h2 h3 h4) sh (fun _ => ns) hg (by omega) (fun _ _ z => z) (fun h' u' tk kp => ⟨.str _, H, I.kept (t' := tk) kp, ⟨_, rfl⟩, q⟩) sz
  | dict h1 h2 h3 h4 h5 => exact repr_of_reads' (.dict h1 h2 h3 h4 h5) sh (fun _ => ns) hg (by omega) (fun _ _ z => z) (fun h' u' tk kp => ⟨.str _, H, I.kept (t' := tk) kp, ⟨_, rfl⟩, q⟩) sz
end
end Gk
set_option maxRecDepth 100000
set_option maxHeartbeats 1000000
namespace Gk
open PySem PySem.Spec PyProof.Rows L2
noncomputable def gJoin (K : PySem.W.Frag) : V → List V → Hp → VK → Prop := fun x xs H Q => ∃ a p, ∃ ys : List Str, x = .str a ∧ xs = [.ref p] ∧ (SqL K H p (ys.map V.str) ∨ SqT K H p (ys.map V.str)) ∧ (ys.map (·.length)).sum + ys.length * a.length ≤ 16777216 ∧ Q (.str (Txt.join a ys)) H
theorem mt_gJoin {X : Cx} {K : PySem.W.Frag} (e : X.K = K) : MtR X "str.join" (gJoin K) := e ▸ mt_join
end Gk
set_option maxRecDepth 100000
set_option maxHeartbeats 1000000
namespace Gk
open PySem PySem.Spec PyProof.Rows L2
noncomputable abbrev tx (l : List Nat) : Str := ⟨l.toArray⟩
noncomputable abbrev vt (l : List Nat) : V := .str (tx l)
theorem tx_len (l : List Nat) : (tx l).length = l.length := SX.S_len l
theorem tx_cat (a b : List Nat) : tx a ++ tx b = tx (a ++ b) := SX.S_cat a b
theorem tx_inj {a b : List Nat} (h : tx a = tx b) : a = b := SX.S_inj h
theorem tx_eq {a b : List Nat} : decide (tx a = tx b) = decide (a = b) := by
  by_cases h : a = b
  · subst h; simp
  · have h' : ¬ tx a = tx b := fun z => h (tx_inj z)
    rw [decide_eq_false h, decide_eq_false h']
noncomputable def isSm (c : Nat) : Bool := decide (97 ≤ c ∧ c ≤ 122)
noncomputable def isCp (c : Nat) : Bool := decide (65 ≤ c ∧ c ≤ 90)
noncomputable def isAl (c : Nat) : Bool := isSm c || isCp c
noncomputable def isMk (c : Nat) : Bool := c == 39 || c == 96 || c == 94 || c == 126 || c == 58
/-- a letter -/
noncomputable def Let1 (l : List Nat) : Prop := ∃ c, isAl c = true ∧ (l = [c] ∨ ∃ m, isMk m = true ∧ l = [c, m])
theorem Let1.len {l : List Nat} (h : Let1 l) : 1 ≤ l.length ∧ l.length ≤ 2 := by
  obtain ⟨c, _, rfl | ⟨m, _, rfl⟩⟩ := h <;> simp
theorem al_lt {c : Nat} (h : isAl c = true) : c < 128 := by
  simp only [isAl, isSm, isCp, Bool.or_eq_true, decide_eq_true_eq] at h; omega
theorem mk_lt {c : Nat} (h : isMk c = true) : c < 128 := by
  simp only [isMk, Bool.or_eq_true, beq_iff_eq] at h; omega
theorem Let1.lt {l : List Nat} (h : Let1 l) : ∀ c ∈ l, c < 128 := by
  obtain ⟨c, h1, rfl | ⟨m, h2, rfl⟩⟩ := h <;> intro x hx <;> simp at hx
  · subst hx; exact al_lt h1
  · rcases hx with rfl | rfl
    · exact al_lt h1
    · exact mk_lt h2
end Gk
set_option maxRecDepth 100000
set_option maxHeartbeats 4000000
namespace Gk
open PySem PySem.Spec PySem.Calls PyProof.Rows PySem.W
section
variable {P : Program} {wd : World} {Ar : Around} {E : Value → Shared → Prop} {s : Shared} {K : Frag} {x D : Addr} {ox : Obj} {od : Option Obj}
/-- what the class of a held error must say -/
structure ExF (K : Frag) (D : Addr) : Prop where
  ga : findIn K (.ref D) "__getattribute__" = some (some (.builtin "BaseException.__getattribute__"))
  gg : findIn K (.ref D) "__getattr__" = some none
  su : subIn K (.ref D) (.type "BaseException") = some true
  hd : hasDictIn K D = true
  cl : findIn K (.ref D) "__class__" = some (some (.builtin "object.__class__"))
  ge : specialIn K (.builtin "object.__class__") "__get__" = some (some (.builtin "getset_descriptor.__get__"))
  tk : takesIn K (.builtin "object.__class__") = some true
  mr : mroIn K D (.type "object") = some true
theorem ExF.isSome (e : ExF K D) : (clsIn K D).isSome = true := by
  obtain ⟨cd, h, _⟩ := any_some e.hd
  rw [h]; rfl
end
end Gk
namespace Gk
open PySem PySem.Spec PyProof.Rows L2
end Gk
set_option maxRecDepth 100000
set_option maxHeartbeats 1000000
namespace Gk
open PySem PySem.Spec PyProof.Rows L2
theorem vts (ls : List (List Nat)) : ls.map vt = (ls.map tx).map V.str := by rw [List.map_map]; rfl
theorem sum_flat (ls : List (List Nat)) : ((ls.map tx).map (·.length)).sum = ls.flatten.length := by
  have := SX.lens ls
  rw [show (ls.map tx).map (·.length) = ls.map (·.length) from this, List.length_flatten]
section
variable {K : PySem.W.Frag} {H : Hp} {Q : VK} {L : List Cell} {R : List (List V × List T)} {P : Str → Addr → Prop}
theorem w_addX {a b : List Nat} (sz : a.length + b.length ≤ 1000000) (q : Q (vt (a ++ b)) H) : gAdd K (vt a) (vt b) H Q := by
  refine w_addS (by rw [tx_len, tx_len, sizeLine_eq]; omega) ?_
  rw [tx_cat]; exact q
theorem w_lenX {a : List Nat} (sz : a.length ≤ 1000000) (q : Q (.int a.length) H) : gLen K [vt a] H Q := by
  refine w_lenS (by rw [tx_len, sizeLine_eq]; omega) ?_
  rw [tx_len]; exact q
end
theorem strOk_tx {l : List Nat} (h : ∀ c ∈ l, c < 0x110000) : PyData.strOk (tx l) = true := by
  unfold PyData.strOk
  rw [← Array.all_toList]
  simp only [List.all_eq_true, decide_eq_true_eq]
  exact h
structure Nice (d : PyData) (n m : Nat) : Prop where
  sh : d.showable = true
  ls : PySem.PyData.leavesShort 13 d = true
  wt : PySem.PyData.weight d ≤ n
  dp : d.depth ≤ m
structure NiceA (ds : List PyData) (n m : Nat) : Prop where
  sh : PyData.showableAll ds = true
  ls : PySem.PyData.leavesShortAll 13 ds = true
  wt : PySem.PyData.weightAll ds ≤ n
  dp : PyData.depthAll ds ≤ m
theorem Nice.fits {d : PyData} {n m : Nat} (h : Nice d n m) (hn : n ≤ 2 ^ 20) : d.shown.length ≤ sizeLine := PySem.PyData.shown_fits (by decide) (by decide) h.ls (Nat.le_trans h.wt hn)
theorem Nice.none : Nice .none 0 0 := ⟨rfl, rfl, Nat.le_refl _, Nat.le_refl _⟩
theorem Nice.bool (b : Bool) : Nice (.bool b) 0 0 := ⟨rfl, rfl, Nat.le_refl _, Nat.le_refl _⟩
theorem Nice.int {i : Int} (h : i.natAbs < 10 ^ 12) : Nice (.int i) 41 0 := by
  have lg : i.natAbs.log2 < 40 := by
    by_cases z : i.natAbs = 0
    · rw [z]; decide
    · exact (Nat.log2_lt z).mpr (by omega)
  refine ⟨?_, ?_, ?_, Nat.le_refl _⟩
  · show decide _ = true; rw [decide_eq_true_eq]; omega
  · show decide _ = true; rw [decide_eq_true_eq]; exact PySem.PyData.shown_int_le h
  · show (if i == 0 then 0 else i.natAbs.log2 + 1) ≤ 41
    split <;> omega
theorem Nice.str {l : List Nat} (h : ∀ c ∈ l, c < 0x110000) : Nice (.str (tx l)) l.length 0 := by
  refine ⟨rfl, ?_, ?_, Nat.le_refl _⟩
  · show (List.all _ _) = true
    rw [List.all_eq_true]; intro c hc; rw [decide_eq_true_eq]
    have : (16 : Nat) ^ 8 = 4294967296 := by decide
    have := h c hc; omega
  · show (tx l).cps.size ≤ _
    exact Nat.le_of_eq (tx_len l)
theorem Nice.mono {d : PyData} {n m n' m' : Nat} (h : Nice d n m) (a : n ≤ n') (b : m ≤ m') : Nice d n' m' := ⟨h.sh, h.ls, Nat.le_trans h.wt a, Nat.le_trans h.dp b⟩
theorem NiceA.mono {d : List PyData} {n m n' m' : Nat} (h : NiceA d n m) (a : n ≤ n') (b : m ≤ m') : NiceA d n' m' := ⟨h.sh, h.ls, Nat.le_trans h.wt a, Nat.le_trans h.dp b⟩
theorem NiceA.nil : NiceA [] 0 0 := ⟨rfl, rfl, Nat.le_refl _, Nat.le_refl _⟩
theorem NiceA.cons {d : PyData} {ds : List PyData} {n m k j : Nat} (h : Nice d n m) (a : NiceA ds k j) : NiceA (d :: ds) (n + 1 + k) (max m j) := by
  refine ⟨?_, ?_, ?_, ?_⟩
  · show (d.showable && PyData.showableAll ds) = true; rw [h.sh, a.sh]; rfl
  · show (PySem.PyData.leavesShort 13 d && PySem.PyData.leavesShortAll 13 ds) = true; rw [h.ls, a.ls]; rfl
  · show PySem.PyData.weight d + 1 + PySem.PyData.weightAll ds ≤ _
    have := h.wt; have := a.wt; omega
  · show max d.depth (PyData.depthAll ds) ≤ _
    have := h.dp; have := a.dp; omega
theorem NiceA.list {ds : List PyData} {n m : Nat} (a : NiceA ds n m) : Nice (.list ds) n (m + 1) := ⟨a.sh, a.ls, a.wt, Nat.succ_le_succ a.dp⟩
theorem NiceA.tuple {ds : List PyData} {n m : Nat} (a : NiceA ds n m) : Nice (.tuple ds) n (m + 1) := ⟨a.sh, a.ls, a.wt, Nat.succ_le_succ a.dp⟩
theorem Nice.dict0 : Nice (.dict []) 0 1 := ⟨rfl, rfl, Nat.le_refl _, by decide⟩
theorem TrA.mem {K : PySem.W.Frag} {F : Hp} {v : V} : ∀ {vs : List V} {ts : List T}, TrA K F vs ts → v ∈ vs → ∃ t ∈ ts, Tr K F v t
  | _, _, .nil, h => nomatch h
  | _, _, .cons a r, h => by
    rcases List.mem_cons.mp h with rfl | h
    · exact ⟨_, List.mem_cons_self, a⟩
    · obtain ⟨t, h1, h2⟩ := TrA.mem r h
      exact ⟨t, List.mem_cons_of_mem _ h1, h2⟩
theorem S.val {K : PySem.W.Frag} {H : Hp} {L : List Cell} {R : List (List V × List T)} {vs : List V} {ts : List T} {v : V} (s : S K H L R) (h : (vs, ts) ∈ R) (hv : v ∈ vs) : ∃ t ∈ ts, S K H L (([v], [t]) :: R) := by
  obtain ⟨F, sm, ce, nd, tr⟩ := s
  obtain ⟨t, h1, h2⟩ := (tr _ h).mem hv
  refine ⟨t, h1, F, sm, ce, nd, fun r hr => ?_⟩
  rcases List.mem_cons.mp hr with rfl | hr
  · exact .cons h2 .nil
  · exact tr r hr
/-- one more value with its tree -/
theorem S.snoc {K : PySem.W.Frag} {H : Hp} {L : List Cell} {R : List (List V × List T)} {vs : List V} {ts : List T} {v : V} {t : T} (s : S K H L R) (h : (vs, ts) ∈ R) (hv : ([v], [t]) ∈ R) : S K H L ((vs ++ [v], ts ++ [t]) :: R) :=
  s.add fun _ q => (q _ h).app (q _ hv)
theorem S.under {K : PySem.W.Frag} {H : Hp} {X C L : List Cell} {R : List (List V × List T)} (s : S K H (X ++ (C ++ L)) R) : S K H (C ++ (X ++ L)) R := s.perm (by
  rw [← List.append_assoc, ← List.append_assoc]; exact List.Perm.append_right _ List.perm_append_comm)
/-- what a thing that is no word is -/
structure Sh (K : PySem.W.Frag) (C : List Cell) (v : V) (d : PyData) (Ty : String) : Prop where
  dd : ∀ {H L R}, S K H (C ++ L) R → Dd K H v d
  ty : ∀ {H L R}, S K H (C ++ L) R → TyX K H v (.type Ty)
  ni : Nice d 4000 3
theorem Sh.none {K : PySem.W.Frag} : Sh K [] .non .none "NoneType" := ⟨fun _ => .non, fun _ => .base .non, Nice.none.mono (by decide) (by decide)⟩
theorem Sh.int {K : PySem.W.Frag} {i : Int} (h : i.natAbs < 10 ^ 12) : Sh K [] (.int i) (.int i) "int" := ⟨fun _ => .int i, fun _ => .base (.int i), (Nice.int h).mono (by decide) (by decide)⟩
theorem Sh.bool {K : PySem.W.Frag} {i : Bool} : Sh K [] (.bl i) (.bool i) "bool" := ⟨fun _ => .bl i, fun _ => .base (.bl i), (Nice.bool i).mono (by decide) (by decide)⟩
theorem Sh.str {K : PySem.W.Frag} {t : List Nat} (h : ∀ c ∈ t, c < 0x110000) (l : t.length ≤ 1000) : Sh K [] (vt t) (.str (tx t)) "str" := ⟨fun _ => .str _, fun _ => .base (.str _), (Nice.str h).mono (by omega) (by decide)⟩
theorem Sh.tup {K : PySem.W.Frag} {p : Addr} {t : List Nat} (h : ∀ c ∈ t, c < 0x110000) (l : t.length ≤ 1000) : Sh K [(p, .tup [vt t])] (.ref p) (.tuple [.str (tx t)]) "tuple" :=
  ⟨fun s => .tup (.of s.cell) (.cons (.str _) .nil), fun s => .base (.tup s.cell), (NiceA.cons (Nice.str h) NiceA.nil).tuple.mono (by omega) (by decide)⟩
theorem Sh.lst {K : PySem.W.Frag} {p : Addr} {t : List Nat} (h : ∀ c ∈ t, c < 0x110000) (l : t.length ≤ 1000) : Sh K [(p, .lst [vt t])] (.ref p) (.list [.str (tx t)]) "list" :=
  ⟨fun s => .lst (.of s.cell) (.cons (.str _) .nil), fun s => .base (.lst s.cell), (NiceA.cons (Nice.str h) NiceA.nil).list.mono (by omega) (by decide)⟩
theorem Sh.dict {K : PySem.W.Frag} {p : Addr} : Sh K [(p, .dK [])] (.ref p) (.dict []) "dict" :=
  ⟨fun s => .dct (.inl s.cell) .nil .nil, fun s => .base (.dK s.cell), Nice.dict0.mono (by decide) (by decide)⟩
end Gk
set_option maxRecDepth 100000
set_option maxHeartbeats 1000000
namespace Gk
open PySem PySem.Spec PyProof.Rows L2
structure CalM (P : Program) (w : World) (K : PySem.W.Frag) (mg : Str → Option Value) (base : Heap) (C : Addr) (m : Str) (k : Nat) (ps : List Str) (dvs : List V) (sp : Sp) : Prop where
  ex : ∃ f fd ds, Cls K C ∧ Meth K C m f ∧ L2.Binds K fd ps ds ∧ Vals dvs ds ∧ FnG P w K mg base k f fd ps sp
section
variable {P : Program} {w : World} {K : PySem.W.Frag} {mg : Str → Option Value} {base : Heap} {k j : Nat} {x m qual : Str} {C : Addr} {st : Stmt} {N ps : List Str} {dvs : List V} {sp sp' : Sp}
theorem CalM.imp (c : CalM P w K mg base C m k ps dvs sp) (h : ∀ vs H Q E, sp' vs H Q E → sp vs H Q E) : CalM P w K mg base C m k ps dvs sp' := by
  obtain ⟨f, fd, ds, a, b, d, e, F⟩ := c
  exact ⟨f, fd, ds, a, b, d, e, F.imp h⟩
end
end Gk
set_option maxRecDepth 100000
set_option maxHeartbeats 1000000
namespace Gk
open PySem PySem.Spec PyProof.Rows L2
section
variable {K : PySem.W.Frag} {H : Hp} {L : List Cell} {R R' : List (List V × List T)} {p : Addr} {vs ws : List V} {ts us : List T}
theorem S.app (s : S K H L R) (h : (vs, ts) ∈ R) (h2 : (ws, us) ∈ R) : S K H L ((vs ++ ws, ts ++ us) :: R) := s.add fun _ q => (q _ h).app (q _ h2)
end
end Gk
set_option maxRecDepth 100000
set_option maxHeartbeats 1000000
namespace En
open PySem PySem.Spec PyProof.Rows L2 Gk
noncomputable abbrev Ky := Int ⊕ List Nat
noncomputable def kyK : Ky → Key
  | .inl i => .inl i
  | .inr l => .inr (tx l)
inductive T where
  | unb | non | bl (b : Bool) | int (i : Int) | str (s : List Nat)
  | lst (o : Bool) (ts : List T) | tup (ts : List T) | dct (o : Bool) (ks : List Ky) (ts : List T)
  | ins (o : Bool) (C : Str) (ns : List Str) (ts : List T)
  | sq (ns : List Int)
  | atv (v : V) (t : T)
  | ty (n : String) | cls (C : Str)
  | ptr (k : Nat) (v : V)
  | exn (C : Str) (t : T)
/-- what is fixed while a def runs: the written part, where the classes stand, the error in hand and its dict -/
structure Ct where
  K : PySem.W.Frag
  cn : Str → Addr
  ea : Addr
  ed : Addr
  ec : Str
  tb : List (Addr × Str) := []
/-- stands in the place of a table of code objects, whose codes bear the name q -/
noncomputable def mark (q : Str) : HO := .tbl #[.str q 0]
/-- the tables are known -/
noncomputable def TbIn (G : Ct) (F : Hp) : Prop := ∀ p ∈ G.tb, F p.1 = some (mark p.2)
/-- what F tells of the thing at b -/
noncomputable def SmO (F H : Hp) (b : Addr) : HO → Prop
  | .tbl m => ∃ (ps : Array Value) (q : Str), m = #[.str q 0] ∧ H b = some (.tbl ps) ∧ TriplesOk ps.toList ∧ ∀ (pos : Pos) (cv : Value), codeAmong pos ps.toList = some cv → ∃ c, cv = .ref c ∧ F c = some (LamX.CodeO c q)
  | u => H b = some u
noncomputable def Smh (F H : Hp) : Prop := ∀ b u, F b = some u → SmO F H b u
theorem SmO.ats {F H : Hp} {b : Addr} {u : HO} (h : H b = some u) (n : ∀ m, u ≠ .tbl m) : SmO F H b u := by
  cases u <;> first | exact h | exact absurd rfl (n _)
theorem SmO.get {F H : Hp} {b : Addr} {u : HO} (h : SmO F H b u) (n : ∀ m, u ≠ .tbl m) : H b = some u := by
  cases u <;> first | exact h | exact absurd rfl (n _)
theorem SmO.has {F H : Hp} {b : Addr} {u : HO} (h : SmO F H b u) : ∃ o, H b = some o := by
  cases u with
  | tbl m => exact let ⟨ps, _, _, z, _⟩ := h; ⟨_, z⟩
  | _ => exact ⟨_, h⟩
theorem SmO.of {F F' H H' : Hp} {b : Addr} {u : HO} (h : SmO F H b u) (k : ∀ o, H b = some o → H' b = some o) (kF : ∀ c q, F c = some (LamX.CodeO c q) → F' c = some (LamX.CodeO c q)) : SmO F' H' b u := by
  cases u with
  | tbl m =>
    obtain ⟨ps, q, e, h, t, a⟩ := h
    exact ⟨ps, q, e, k _ h, t, fun pos cv z => by
      obtain ⟨c, e1, e2⟩ := a pos cv z
      exact ⟨c, e1, kF _ _ e2⟩⟩
  | _ => exact k _ h
theorem Smh.free {F H : Hp} (e : Smh F H) {l : Addr} (h : H l = none) : F l = none := by
  cases q : F l with
  | none => rfl
  | some o =>
    obtain ⟨u, z⟩ := (e l o q).has
    rw [h] at z; cases z
theorem Smh.seq {K : PySem.W.Frag} {F H : Hp} {a : Addr} {xs : List V} (e : Smh F H) (h : SqL K F a xs) : SqL K H a xs := by
  rcases h with (h | ⟨o, h⟩) | h
  · exact .inl (.inl (e _ _ h))
  · exact .inl (.inr ⟨o, e _ _ h⟩)
  · exact .inr h
theorem Smh.seqT {K : PySem.W.Frag} {F H : Hp} {a : Addr} {xs : List V} (e : Smh F H) (h : SqT K F a xs) : SqT K H a xs := by
  rcases h with (h | ⟨o, h⟩) | h
  · exact .inl (.inl (e _ _ h))
  · exact .inl (.inr ⟨o, e _ _ h⟩)
  · exact .inr h
theorem Smh.ne {F H : Hp} (e : Smh F H) {a b : Addr} {u : HO} (h : F b = some u) (n : F a = none) : b ≠ a := fun z => by
  rw [z, n] at h; cases h
/-- L: the cells that are the tree's own -/
structure Sx (H : Hp) (L : List Cell) (F : Hp) : Prop where
  sm : Smh F H
  ce : ∀ c ∈ L, H c.1 = some c.2 ∧ F c.1 = none
  nd : (L.map (·.1)).Nodup
  nt : ∀ c ∈ L, ∀ m, c.2 ≠ .tbl m
mutual
inductive Tr (K : PySem.W.Frag) (cn : Str → Addr) (F : Hp) : List Cell → V → T → Prop
  | non : Tr K cn F [] .non .non
  | bl (b : Bool) : Tr K cn F [] (.bl b) (.bl b)
  | int (i : Int) : Tr K cn F [] (.int i) (.int i)
  | str (s : List Nat) : Tr K cn F [] (vt s) (.str s)
  | ty (n : String) : Tr K cn F [] (.ty n) (.ty n)
  | cls (C : Str) : Tr K cn F [] (.ref (cn C)) (.cls C)
  | ptr (k : Nat) {v : V} : (∀ b, v ≠ .byt b) → Tr K cn F [] v (.ptr k v)
  | sq {a : Addr} (ns : List Int) : SqL K F a (ns.map .int) → Tr K cn F [] (.ref a) (.sq ns)
  | lstF {a : Addr} {xs : List V} {ts : List T} : F a = some (.lst xs) → TrA K cn F [] xs ts → Tr K cn F [] (.ref a) (.lst false ts)
  | lstO {a : Addr} {xs : List V} {ts : List T} {L M : List Cell} : TrA K cn F L xs ts → M.Perm ((a, .lst xs) :: L) → Tr K cn F M (.ref a) (.lst true ts)
  | tup {a : Addr} {xs : List V} {ts : List T} {L : List Cell} : SqT K F a xs → TrA K cn F L xs ts → Tr K cn F L (.ref a) (.tup ts)
  | dctF {a : Addr} {kvs : List (Key × V)} {ks : List Ky} {ts : List T} : Rd F a (.dK kvs) → kvs.map (·.1) = ks.map kyK → TrA K cn F [] (kvs.map (·.2)) ts → Tr K cn F [] (.ref a) (.dct false ks ts)
  | dctO {a : Addr} {kvs : List (Key × V)} {ks : List Ky} {ts : List T} {L M : List Cell} : kvs.map (·.1) = ks.map kyK → TrA K cn F L (kvs.map (·.2)) ts → M.Perm ((a, .dK kvs) :: L) → Tr K cn F M (.ref a) (.dct true ks ts)
  | insF {a dx : Addr} {C : Str} {fs : List (Str × V)} {ns : List Str} {ts : List T} : F a = some (.ins (cn C) dx fs) → fs.map (·.1) = ns → TrA K cn F [] (fs.map (·.2)) ts → Tr K cn F [] (.ref a) (.ins false C ns ts)
  | insO {a dx : Addr} {C : Str} {fs : List (Str × V)} {ns : List Str} {ts : List T} {L M : List Cell} : fs.map (·.1) = ns → TrA K cn F L (fs.map (·.2)) ts → M.Perm ((a, .ins (cn C) dx fs) :: L) → Tr K cn F M (.ref a) (.ins true C ns ts)
  | atv {v : V} {t : T} {L M : List Cell} : Tr K cn F L v t → M.Perm L → Tr K cn F M v (.atv v t)
inductive TrA (K : PySem.W.Frag) (cn : Str → Addr) (F : Hp) : List Cell → List V → List T → Prop
  | nil : TrA K cn F [] [] []
  | cons {v : V} {vs : List V} {t : T} {ts : List T} {L L1 L2 : List Cell} : Tr K cn F L1 v t → TrA K cn F L2 vs ts → L.Perm (L1 ++ L2) → TrA K cn F L (v :: vs) (t :: ts)
end
mutual
/-- all of it let stand -/
noncomputable def T.frz : T → T
  | .lst _ ts => .lst false (T.frzA ts)
  | .tup ts => .tup (T.frzA ts)
  | .dct _ ks ts => .dct false ks (T.frzA ts)
  | .ins _ C ns ts => .ins false C ns (T.frzA ts)
  | .atv v t => .atv v t.frz
  | t => t
noncomputable def T.frzA : List T → List T
  | [] => []
  | t :: ts => t.frz :: T.frzA ts
end
mutual
/-- nothing in it that stood before and may be changed -/
noncomputable def T.fresh : T → Bool
  | .lst o ts => o && T.freshA ts
  | .tup ts => T.freshA ts
  | .dct o _ ts => o && T.freshA ts
  | .ins o _ _ ts => o && T.freshA ts
  | .atv _ t => t.fresh
  | .sq _ => false
  | _ => true
noncomputable def T.freshA : List T → Bool
  | [] => true
  | t :: ts => t.fresh && T.freshA ts
end
theorem frzA_map (ts : List T) : T.frzA ts = ts.map T.frz := by
  induction ts with
  | nil => rfl
  | cons t ts ih => rw [T.frzA, ih]; rfl
theorem freshA_all (ts : List T) : T.freshA ts = ts.all T.fresh := by
  induction ts with
  | nil => rfl
  | cons t ts ih => rw [T.freshA, ih]; rfl
section
variable {K : PySem.W.Frag} {cn : Str → Addr} {F F' H H' : Hp} {L L' L1 L2 M : List Cell} {v : V} {vs : List V} {t : T} {ts : List T} {a : Addr} {o : HO}
theorem Sx.perm (s : Sx H L F) (h : L.Perm M) : Sx H M F := ⟨s.sm, fun c hc => s.ce c (h.mem_iff.mpr hc), (h.map (·.1)).nodup_iff.mp s.nd, fun c hc => s.nt c (h.mem_iff.mpr hc)⟩
theorem Sx.sub (s : Sx H L F) (h : M.Sublist L) : Sx H M F := ⟨s.sm, fun c hc => s.ce c (h.subset hc), (h.map _).nodup s.nd, fun c hc => s.nt c (h.subset hc)⟩
theorem Sx.right (s : Sx H (L ++ M) F) : Sx H M F := s.sub (List.sublist_append_right _ _)
theorem Sx.cell (s : Sx H ((a, o) :: L) F) : H a = some o := (s.ce _ List.mem_cons_self).1
theorem Sx.new (s : Sx H L F) (n : H a = none) (o : HO) (no : ∀ m, o ≠ .tbl m := by intro m z; cases z) : Sx (upd H a o) ((a, o) :: L) F := by
  have fp : F a = none := s.sm.free n
  refine ⟨fun b u e => (s.sm b u e).of (fun o z => by rw [upd_ne (ne_of_none z n)]; exact z) fun _ _ z => z, fun c hc => ?_, ?_, fun c hc => ?_⟩
  · rcases List.mem_cons.mp hc with rfl | hc
    · exact ⟨upd_same, fp⟩
    · obtain ⟨h1, h2⟩ := s.ce c hc
      exact ⟨by rw [upd_ne (ne_of_none h1 n)]; exact h1, h2⟩
  · rw [List.map_cons, List.nodup_cons]
    refine ⟨fun hm => ?_, s.nd⟩
    obtain ⟨c, hc, e⟩ := List.mem_map.mp hm
    have := (s.ce c hc).1
    rw [e] at this
    have n' : H a = none := n
    rw [n'] at this; cases this
  · rcases List.mem_cons.mp hc with rfl | hc
    · exact no
    · exact s.nt c hc
theorem Sx.put (s : Sx H ((a, o) :: L) F) (o' : HO) (no : ∀ m, o' ≠ .tbl m := by intro m z; cases z) : Sx (upd H a o') ((a, o') :: L) F := by
  have fa : F a = none := (s.ce _ List.mem_cons_self).2
  have nd := s.nd
  rw [List.map_cons, List.nodup_cons] at nd
  refine ⟨fun b u e => ?_, fun c hc => ?_, by rw [List.map_cons, List.nodup_cons]; exact nd, fun c hc => ?_⟩
  · have hb : b ≠ a := fun z => by rw [z, fa] at e; cases e
    exact (s.sm b u e).of (fun o z => by rw [upd_ne hb]; exact z) fun _ _ z => z
  · rcases List.mem_cons.mp hc with rfl | hc
    · exact ⟨upd_same, fa⟩
    · obtain ⟨h1, h2⟩ := s.ce c (List.mem_cons_of_mem _ hc)
      refine ⟨?_, h2⟩
      have hb : c.1 ≠ a := fun z => nd.1 (List.mem_map.mpr ⟨c, hc, z⟩)
      rw [upd_ne hb]; exact h1
  · rcases List.mem_cons.mp hc with rfl | hc
    · exact no
    · exact s.nt c (List.mem_cons_of_mem _ hc)
/-- cells let stand -/
noncomputable def addC (F : Hp) : List Cell → Hp
  | [] => F
  | c :: r => upd (addC F r) c.1 c.2
theorem addC_out : ∀ {L : List Cell} {a : Addr}, a ∉ L.map (·.1) → addC F L a = F a
  | [], _, _ => rfl
  | c :: r, a, h => by
    rw [List.map_cons, List.mem_cons, not_or] at h
    show upd _ _ _ _ = _
    rw [upd_ne h.1]; exact addC_out h.2
theorem addC_in : ∀ {L : List Cell} {c : Cell}, (L.map (·.1)).Nodup → c ∈ L → addC F L c.1 = some c.2
  | d :: r, c, nd, h => by
    rw [List.map_cons, List.nodup_cons] at nd
    show upd _ _ _ _ = _
    rcases List.mem_cons.mp h with rfl | h
    · exact upd_same
    · rw [upd_ne (fun z => nd.1 (List.mem_map.mpr ⟨c, h, z⟩))]; exact addC_in nd.2 h
theorem Sx.addC_same (s : Sx H (L ++ M) F) : Same F (addC F L) := fun b u e => by
  rw [addC_out]; exact e
  intro hm
  obtain ⟨c, hc, rfl⟩ := List.mem_map.mp hm
  have := (s.ce c (List.mem_append_left _ hc)).2
  rw [this] at e; cases e
theorem Sx.stand (s : Sx H (L ++ M) F) : Sx H M (addC F L) := by
  have nd := s.nd
  rw [List.map_append, List.nodup_append] at nd
  refine ⟨fun b u e => ?_, fun c hc => ?_, nd.2.1, fun c hc => s.nt c (List.mem_append_right _ hc)⟩
  · by_cases hb : b ∈ L.map (·.1)
    · obtain ⟨c, hc, rfl⟩ := List.mem_map.mp hb
      rw [addC_in nd.1 hc] at e; cases e
      exact .ats (s.ce c (List.mem_append_left _ hc)).1 (s.nt c (List.mem_append_left _ hc))
    · rw [addC_out hb] at e; exact (s.sm b u e).of (fun _ z => z) fun c q z => s.addC_same _ _ z
  · obtain ⟨h1, h2⟩ := s.ce c (List.mem_append_right _ hc)
    refine ⟨h1, ?_⟩
    rw [addC_out]; exact h2
    intro hm
    exact nd.2.2 _ hm _ (List.mem_map.mpr ⟨c, hc, rfl⟩) rfl
theorem Sx.addC_mem (s : Sx H (L ++ M) F) {c : Cell} (h : c ∈ L) : addC F L c.1 = some c.2 := by
  have nd := s.nd
  rw [List.map_append, List.nodup_append] at nd
  exact addC_in nd.1 h
/-- the ways in which a tree's cells may be told -/
theorem Tr.perm (h : Tr K cn F L v t) (p : L.Perm M) : Tr K cn F M v t := by
  cases h with
  | non => rw [List.nil_perm.mp p]; exact .non
  | bl => rw [List.nil_perm.mp p]; exact .bl _
  | int => rw [List.nil_perm.mp p]; exact .int _
  | str => rw [List.nil_perm.mp p]; exact .str _
  | ty => rw [List.nil_perm.mp p]; exact .ty _
  | cls => rw [List.nil_perm.mp p]; exact .cls _
  | ptr k n => rw [List.nil_perm.mp p]; exact .ptr k n
  | sq _ h => rw [List.nil_perm.mp p]; exact .sq _ h
  | lstF h a => rw [List.nil_perm.mp p]; exact .lstF h a
  | lstO a q => exact .lstO a (p.symm.trans q)
  | tup h a => exact .tup h (by
      cases a with
      | nil => rw [List.nil_perm.mp p]; exact .nil
      | cons b c q => exact .cons b c (p.symm.trans q))
  | dctF h k a => rw [List.nil_perm.mp p]; exact .dctF h k a
  | dctO k a q => exact .dctO k a (p.symm.trans q)
  | insF h k a => rw [List.nil_perm.mp p]; exact .insF h k a
  | insO k a q => exact .insO k a (p.symm.trans q)
  | atv h q => exact .atv h (p.symm.trans q)
theorem TrA.perm (h : TrA K cn F L vs ts) (p : L.Perm M) : TrA K cn F M vs ts := by
  cases h with
  | nil => rw [List.nil_perm.mp p]; exact .nil
  | cons b c q => exact .cons b c (p.symm.trans q)
mutual
theorem Tr.mono (e : Same F F') : ∀ {L : List Cell} {v : V} {t : T}, Tr K cn F L v t → Tr K cn F' L v t
  | _, _, _, .non => .non
  | _, _, _, .bl b => .bl b
  | _, _, _, .int i => .int i
  | _, _, _, .str s => .str s
  | _, _, _, .ty s => .ty s
  | _, _, _, .cls s => .cls s
  | _, _, _, .ptr k n => .ptr k n
  | _, _, _, .sq ns h => .sq ns (e.seq h)
  | _, _, _, .lstF h a => .lstF (e _ _ h) (TrA.mono e a)
  | _, _, _, .lstO a p => .lstO (TrA.mono e a) p
  | _, _, _, .tup h a => .tup (same_seqT e h) (TrA.mono e a)
  | _, _, _, .dctF h k a => .dctF (h.elim (fun q => .inl (e _ _ q)) fun q => .inr (q.elim fun o q => ⟨o, e _ _ q⟩)) k (TrA.mono e a)
  | _, _, _, .dctO k a p => .dctO k (TrA.mono e a) p
  | _, _, _, .insF h k a => .insF (e _ _ h) k (TrA.mono e a)
  | _, _, _, .insO k a p => .insO k (TrA.mono e a) p
  | _, _, _, .atv h p => .atv (Tr.mono e h) p
theorem TrA.mono (e : Same F F') : ∀ {L : List Cell} {vs : List V} {ts : List T}, TrA K cn F L vs ts → TrA K cn F' L vs ts
  | _, _, _, .nil => .nil
  | _, _, _, .cons h a p => .cons (Tr.mono e h) (TrA.mono e a) p
end
theorem TrA.len : ∀ {L : List Cell} {vs : List V} {ts : List T}, TrA K cn F L vs ts → vs.length = ts.length
  | _, _, _, .nil => rfl
  | _, _, _, .cons _ a _ => congrArg (· + 1) (TrA.len a)
theorem sub_mem {A B C : List Cell} (p : A.Perm (B ++ C)) {F : Hp} (h : ∀ c ∈ A, F c.1 = some c.2) : (∀ c ∈ B, F c.1 = some c.2) ∧ ∀ c ∈ C, F c.1 = some c.2 :=
  ⟨fun c hc => h c (p.mem_iff.mpr (List.mem_append_left _ hc)), fun c hc => h c (p.mem_iff.mpr (List.mem_append_right _ hc))⟩
mutual
/-- let stand -/
theorem Tr.frz : ∀ {L : List Cell} {v : V} {t : T}, Tr K cn F L v t → (∀ c ∈ L, F c.1 = some c.2) → Tr K cn F [] v t.frz
  | _, _, _, .non, _ => .non
  | _, _, _, .bl b, _ => .bl b
  | _, _, _, .int i, _ => .int i
  | _, _, _, .str s, _ => .str s
  | _, _, _, .ty s, _ => .ty s
  | _, _, _, .cls s, _ => .cls s
  | _, _, _, .ptr k n, _ => .ptr k n
  | _, _, _, .sq ns h, _ => .sq ns h
  | _, _, _, .lstF h a, _ => .lstF h (TrA.frz a (fun _ z => nomatch z))
  | _, _, _, .lstO (a := x) (xs := xs) a p, m => by
    have q := sub_mem (B := [(x, .lst xs)]) p m
    exact .lstF (q.1 (x, .lst xs) List.mem_cons_self) (TrA.frz a q.2)
  | _, _, _, .tup h a, m => .tup h (TrA.frz a m)
  | _, _, _, .dctF h k a, _ => .dctF h k (TrA.frz a (fun _ z => nomatch z))
  | _, _, _, .dctO (a := x) (kvs := xs) k a p, m => by
    have q := sub_mem (B := [(x, .dK xs)]) p m
    exact .dctF (.inl (q.1 (x, .dK xs) List.mem_cons_self)) k (TrA.frz a q.2)
  | _, _, _, .insF h k a, _ => .insF h k (TrA.frz a (fun _ z => nomatch z))
  | _, _, _, .insO (a := x) (dx := dx) (C := C) (fs := fs) k a p, m => by
    have q := sub_mem (B := [(x, .ins (cn C) dx fs)]) p m
    exact .insF (q.1 (x, .ins (cn C) dx fs) List.mem_cons_self) k (TrA.frz a q.2)
  | _, _, _, .atv h p, m => .atv (Tr.frz h (fun c hc => m c (p.mem_iff.mpr hc))) (.refl _)
theorem TrA.frz : ∀ {L : List Cell} {vs : List V} {ts : List T}, TrA K cn F L vs ts → (∀ c ∈ L, F c.1 = some c.2) → TrA K cn F [] vs (T.frzA ts)
  | _, _, _, .nil, _ => .nil
  | _, _, _, .cons h a p, m => .cons (Tr.frz h (sub_mem p m).1) (TrA.frz a (sub_mem p m).2) (.refl _)
end
/-- what is not of the cells B -/
noncomputable def less (F : Hp) (B : List Cell) : Hp := fun a => if a ∈ B.map (·.1) then none else F a
/-- cells that may be changed -/
noncomputable def Mt (B : List Cell) : Prop := ∀ c ∈ B, ∀ xs, c.2 ≠ .tup xs ∧ (∀ o, c.2 ≠ .frz o (.tup xs)) ∧ (∀ m, c.2 ≠ .tbl m) ∧ ∀ φ, c.2 ≠ .ext φ
theorem less_tup {B : List Cell} {xs : List V} (mt : Mt B) (hB : ∀ c ∈ B, F c.1 = some c.2) (h : SqT K F a xs) : SqT K (less F B) a xs := by
  have key : ∀ u, F a = some u → (u = .tup xs ∨ ∃ o, u = .frz o (.tup xs)) → less F B a = some u := fun u e hu => by
    unfold less
    rw [if_neg]; exact e
    intro hm
    obtain ⟨c, hc, rfl⟩ := List.mem_map.mp hm
    rw [hB c hc] at e
    cases e
    rcases hu with hu | ⟨o, hu⟩
    · exact (mt c hc xs).1 hu
    · exact (mt c hc xs).2.1 o hu
  rcases h with h | h
  · rcases h with h | ⟨o, h⟩
    · exact .inl (.inl (key _ h (.inl rfl)))
    · exact .inl (.inr ⟨o, key _ h (.inr ⟨o, rfl⟩)⟩)
  · exact .inr h
mutual
theorem Tr.less {B : List Cell} (mt : Mt B) (hB : ∀ c ∈ B, F c.1 = some c.2) : ∀ {L : List Cell} {v : V} {t : T}, Tr K cn F L v t → t.fresh = true → Tr K cn (less F B) L v t
  | _, _, _, .non, _ => .non
  | _, _, _, .bl b, _ => .bl b
  | _, _, _, .int i, _ => .int i
  | _, _, _, .str s, _ => .str s
  | _, _, _, .ty s, _ => .ty s
  | _, _, _, .cls s, _ => .cls s
  | _, _, _, .ptr k n, _ => .ptr k n
  | _, _, _, .sq ns h, e => by simp [T.fresh] at e
  | _, _, _, .lstF h a, e => by simp [T.fresh] at e
  | _, _, _, .lstO a p, e => .lstO (TrA.less mt hB a (by simpa [T.fresh] using e)) p
  | _, _, _, .tup h a, e => .tup (less_tup mt hB h) (TrA.less mt hB a (by simpa [T.fresh] using e))
  | _, _, _, .dctF h k a, e => by simp [T.fresh] at e
  | _, _, _, .dctO k a p, e => .dctO k (TrA.less mt hB a (by simpa [T.fresh] using e)) p
  | _, _, _, .insF h k a, e => by simp [T.fresh] at e
  | _, _, _, .insO k a p, e => .insO k (TrA.less mt hB a (by simpa [T.fresh] using e)) p
  | _, _, _, .atv h p, e => .atv (Tr.less mt hB h (by simpa [T.fresh] using e)) p
theorem TrA.less {B : List Cell} (mt : Mt B) (hB : ∀ c ∈ B, F c.1 = some c.2) : ∀ {L : List Cell} {vs : List V} {ts : List T}, TrA K cn F L vs ts → T.freshA ts = true → TrA K cn (less F B) L vs ts
  | _, _, _, .nil, _ => .nil
  | _, _, _, .cons h a p, e => by
    have e' : (_ && _) = true := e
    rw [Bool.and_eq_true] at e'
    exact .cons (Tr.less mt hB h e'.1) (TrA.less mt hB a e'.2) p
end
mutual
theorem Tr.mt : ∀ {L : List Cell} {v : V} {t : T}, Tr K cn F L v t → Mt L
  | _, _, _, .non => fun _ h => nomatch h
  | _, _, _, .bl b => fun _ h => nomatch h
  | _, _, _, .int i => fun _ h => nomatch h
  | _, _, _, .str s => fun _ h => nomatch h
  | _, _, _, .ty s => fun _ h => nomatch h
  | _, _, _, .cls s => fun _ h => nomatch h
  | _, _, _, .ptr _ _ => fun _ h => nomatch h
  | _, _, _, .sq ns h => fun _ h => nomatch h
  | _, _, _, .lstF h a => fun _ h => nomatch h
  | _, _, _, .lstO (a := x) (xs := xs) a p => fun c hc ys => by
    rcases List.mem_cons.mp (p.mem_iff.mp hc) with rfl | hc
    · exact ⟨by simp, by simp, by simp, by simp⟩
    · exact TrA.mt a c hc ys
  | _, _, _, .tup h a => TrA.mt a
  | _, _, _, .dctF h k a => fun _ h => nomatch h
  | _, _, _, .dctO k a p => fun c hc ys => by
    rcases List.mem_cons.mp (p.mem_iff.mp hc) with rfl | hc
    · exact ⟨by simp, by simp, by simp, by simp⟩
    · exact TrA.mt a c hc ys
  | _, _, _, .insF h k a => fun _ h => nomatch h
  | _, _, _, .insO k a p => fun c hc ys => by
    rcases List.mem_cons.mp (p.mem_iff.mp hc) with rfl | hc
    · exact ⟨by simp, by simp, by simp, by simp⟩
    · exact TrA.mt a c hc ys
  | _, _, _, .atv h p => fun c hc => Tr.mt h c (p.mem_iff.mp hc)
theorem TrA.mt : ∀ {L : List Cell} {vs : List V} {ts : List T}, TrA K cn F L vs ts → Mt L
  | _, _, _, .nil => fun _ h => nomatch h
  | _, _, _, .cons h a p => fun c hc ys => by
    rcases List.mem_append.mp (p.mem_iff.mp hc) with hc | hc
    · exact Tr.mt h c hc ys
    · exact TrA.mt a c hc ys
end
/-- cells taken back -/
theorem Sx.back {B : List Cell} (mt : Mt B) (s : Sx H L F') (s0 : Sx H' (B ++ M) F) (k : Same (addC F B) F') : Sx H (B ++ L) (less F' B) ∧ Same F (less F' B) ∧ ∀ c ∈ B, F' c.1 = some c.2 := by
  have hB : ∀ c ∈ B, F' c.1 = some c.2 := fun c hc => k _ _ (s0.addC_mem hc)
  have sameF : Same F (less F' B) := fun b u e => by
    unfold less
    rw [if_neg]
    · exact k _ _ (s0.addC_same _ _ e)
    · intro hm
      obtain ⟨c, hc, rfl⟩ := List.mem_map.mp hm
      have := (s0.ce c (List.mem_append_left _ hc)).2
      rw [this] at e; cases e
  refine ⟨⟨fun b u e => ?_, fun c hc => ?_, ?_, fun c hc => (List.mem_append.mp hc).elim (fun z => (mt c z []).2.2.1) fun z => s.nt c z⟩, sameF, hB⟩
  · unfold less at e
    split at e
    · cases e
    · refine (s.sm b u e).of (fun _ z => z) fun c q z => ?_
      unfold less
      rw [if_neg]
      · exact z
      · intro hm
        obtain ⟨d, hd, rfl⟩ := List.mem_map.mp hm
        rw [hB d hd] at z
        exact (mt d hd []).2.2.2 _ (Option.some.inj z)
  · rcases List.mem_append.mp hc with hc | hc
    · refine ⟨(s.sm _ _ (hB c hc)).get (mt c hc []).2.2.1, ?_⟩
      unfold less; rw [if_pos (List.mem_map.mpr ⟨c, hc, rfl⟩)]
    · obtain ⟨h1, h2⟩ := s.ce c hc
      refine ⟨h1, ?_⟩
      unfold less; split
      · rfl
      · exact h2
  · have nd := s0.nd
    rw [List.map_append, List.nodup_append] at nd
    rw [List.map_append, List.nodup_append]
    refine ⟨nd.1, s.nd, ?_⟩
    rintro x hx y hy rfl
    obtain ⟨c, hc, rfl⟩ := List.mem_map.mp hx
    obtain ⟨d, hd, e⟩ := List.mem_map.mp hy
    have h1 := hB c hc
    have h2 := (s.ce d hd).2
    rw [e, h1] at h2; cases h2
end
end En
set_option maxRecDepth 100000
set_option maxHeartbeats 1000000
namespace En
open PySem PySem.Spec PyProof.Rows L2 Gk
noncomputable instance : DecidableEq Cell := Classical.typeDecidableEq _
local macro_rules | `(tactic| walk_at "pm") => `(tactic| (simp only [List.perm_iff_count, List.count_append, List.count_cons, List.count_nil] at *; grind))
noncomputable abbrev Env := List T
noncomputable abbrev Sg := L2.St
/-- the field of an error, by its class -/
noncomputable def fldX (C : Str) : Str := if C = "TooMany" then "many" else if C = "Clash" then "numbers" else if C = "NoRow" then "row" else "found"
noncomputable def xdO (C : Str) (v : V) : HO := .xd [(fldX C, v)]
inductive SlR (G : Ct) (F : Hp) : List Cell → Option V → T → Prop
  | unb (o : Option V) : SlR G F [] o .unb
  | val {v : V} {t : T} {L : List Cell} : Tr G.K G.cn F L v t → SlR G F L (some v) t
  | exn {v : V} {x : T} {L M : List Cell} : Tr G.K G.cn F L v x → M.Perm ((G.ed, xdO G.ec v) :: L) → SlR G F M (some (.ref G.ea)) (.exn G.ec x)
inductive EnvR (G : Ct) (F : Hp) : List Cell → Sg → Env → Prop
  | nil : TbIn G F → EnvR G F [] [] []
  | cons {o : Option V} {σ : Sg} {t : T} {env : Env} {L L1 L2 : List Cell} : SlR G F L1 o t → EnvR G F L2 σ env → L.Perm (L1 ++ L2) → EnvR G F L (o :: σ) (t :: env)
section
variable {G : Ct} {F F' H H' : Hp} {L L' L1 L2 M : List Cell} {o : Option V} {v : V} {vs : List V} {t : T} {ts : List T} {σ : Sg} {env : Env} {i : Nat}
theorem SlR.perm (h : SlR G F L o t) (p : L.Perm M) : SlR G F M o t := by
  cases h with
  | unb => rw [List.nil_perm.mp p]; exact .unb _
  | val h => exact .val (h.perm p)
  | exn h q => exact .exn h (p.symm.trans q)
theorem SlR.mono (e : Same F F') (h : SlR G F L o t) : SlR G F' L o t := by
  cases h with
  | unb => exact .unb _
  | val h => exact .val (h.mono e)
  | exn h q => exact .exn (h.mono e) q
theorem EnvR.tb (h : EnvR G F L σ env) : TbIn G F := by
  induction h with
  | nil t => exact t
  | cons a b q ih => exact ih
theorem TbIn.mono (e : Same F F') (h : TbIn G F) : TbIn G F' := fun p hp => e _ _ (h p hp)
theorem EnvR.perm (h : EnvR G F L σ env) (p : L.Perm M) : EnvR G F M σ env := by
  cases h with
  | nil t => rw [List.nil_perm.mp p]; exact .nil t
  | cons a b q => exact .cons a b (p.symm.trans q)
theorem EnvR.mono (e : Same F F') (h : EnvR G F L σ env) : EnvR G F' L σ env := by
  induction h with
  | nil t => exact .nil (t.mono e)
  | cons a b q ih => exact .cons (a.mono e) ih q
theorem EnvR.len (h : EnvR G F L σ env) : σ.length = env.length := by
  induction h with
  | nil => rfl
  | cons a b q ih => simp [ih]
theorem EnvR.get (h : EnvR G F L σ env) : ∀ {i : Nat}, env[i]? = some t → ∃ o L1 L2, σ[i]? = some o ∧ L.Perm (L1 ++ L2) ∧ SlR G F L1 o t ∧ ∀ F' o' L1' t', Same F F' → SlR G F' L1' o' t' → EnvR G F' (L1' ++ L2) (σ.set i o') (env.set i t') := by
  induction h with
  | nil => intro i e; simp at e
  | @cons o σ u env L L1 L2 a b q ih =>
    intro i e
    cases i with
    | zero =>
      simp at e; subst e
      exact ⟨o, L1, L2, rfl, q, a, fun F' o' L1' t' sm h' => .cons h' (b.mono sm) (.refl _)⟩
    | succ i =>
      simp at e
      obtain ⟨o1, M1, M2, h1, h2, h3, h4⟩ := ih e
      refine ⟨o1, M1, L1 ++ M2, by simpa using h1, by walk_at "pm", h3, fun F' o' L1' t' sm h' => ?_⟩
      exact .cons (a.mono sm) (h4 F' o' L1' t' sm h') (by walk_at "pm")
theorem set_self {α : Type} {xs : List α} {i : Nat} {x : α} (h : xs[i]? = some x) : xs.set i x = xs := by
  obtain ⟨hl, rfl⟩ := List.getElem?_eq_some_iff.mp h
  exact List.set_getElem_self hl
mutual
theorem frz_frz : ∀ t : T, t.frz.frz = t.frz
  | .unb => rfl | .non => rfl | .bl _ => rfl | .int _ => rfl | .str _ => rfl | .ty _ => rfl | .cls _ => rfl | .ptr _ _ => rfl | .sq _ => rfl | .exn _ _ => rfl
  | .lst _ ts => by rw [T.frz, T.frz, frzA_frzA ts]
  | .tup ts => by rw [T.frz, T.frz, frzA_frzA ts]
  | .dct _ _ ts => by rw [T.frz, T.frz, frzA_frzA ts]
  | .ins _ _ _ ts => by rw [T.frz, T.frz, frzA_frzA ts]
  | .atv _ t => by rw [T.frz, T.frz, frz_frz t]
theorem frzA_frzA : ∀ ts : List T, T.frzA (T.frzA ts) = T.frzA ts
  | [] => rfl
  | t :: ts => by rw [T.frzA, T.frzA, frz_frz t, frzA_frzA ts]
end
theorem frz_nil {K : PySem.W.Frag} {cn : Str → Addr} (h : Tr K cn F L v t) : t.frz = t → L = [] := by
  refine Tr.rec (motive_1 := fun L v t _ => t.frz = t → L = []) (motive_2 := fun L vs ts _ => T.frzA ts = ts → L = []) ?_ ?_ ?_ ?_ ?_ ?_ ?_ ?_ ?_ ?_ ?_ ?_ ?_ ?_ ?_ ?_ ?_ ?_ h
  · intro _; rfl
  · intros; rfl
  · intros; rfl
  · intros; rfl
  · intros; rfl
  · intros; rfl
  · intros; rfl
  · intros; rfl
  · intros; rfl
  · intro _ _ _ _ _ _ _ _ e; simp [T.frz] at e
  · intro _ _ _ _ _ _ ih e; simp [T.frz] at e; exact ih e
  · intros; rfl
  · intro _ _ _ _ _ _ _ _ _ _ e; simp [T.frz] at e
  · intros; rfl
  · intro _ _ _ _ _ _ _ _ _ _ _ _ e; simp [T.frz] at e
  · intro _ _ _ _ _ p ih e; simp [T.frz] at e; rw [ih e] at p; exact List.perm_nil.mp p
  · intro _; rfl
  · intro _ _ _ _ _ _ _ _ _ p ih1 ih2 e; simp [T.frzA] at e; rw [ih1 e.1, ih2 e.2] at p; exact List.perm_nil.mp p
noncomputable def T.isV : T → Bool
  | .unb => false
  | .exn _ _ => false
  | _ => true
theorem SlR.tr (h : SlR G F L o t) (e : t.isV = true) : ∃ v, o = some v ∧ Tr G.K G.cn F L v t := by
  cases h with
  | unb => cases e
  | val h => exact ⟨_, rfl, h⟩
  | exn h q => cases e
theorem frz_isV : t.frz.isV = t.isV := by cases t <;> rfl
/-- names let stand -/
noncomputable def frzS : List Nat → Env → Env
  | [], e => e
  | i :: r, e => frzS r (match e[i]? with | some t => e.set i t.frz | none => e)
theorem addC_le {B : List Cell} (sm : Same F F') (h : ∀ c ∈ B, F' c.1 = some c.2) : Same (addC F B) F' := by
  induction B with
  | nil => exact sm
  | cons c r ih =>
    intro b u e
    have e' : upd (addC F r) c.1 c.2 b = some u := e
    by_cases hb : b = c.1
    · subst hb; rw [upd_same] at e'; cases e'; exact h c List.mem_cons_self
    · rw [upd_ne hb] at e'; exact ih (fun d hd => h d (List.mem_cons_of_mem _ hd)) _ _ e'
theorem EnvR.split : ∀ {I : List Nat} {F : Hp} {L Lf : List Cell} {env : Env}, EnvR G F L σ env → Sx H (L ++ Lf) F → ∃ B L', L.Perm (B ++ L') ∧ Mt B ∧ ∀ F', Same F F' → (∀ c ∈ B, F' c.1 = some c.2) → EnvR G F' L' σ (frzS I env)
  | [], F, L, Lf, env, er, s => ⟨[], L, .refl _, (fun _ h => nomatch h), fun F' sm _ => er.mono sm⟩
  | i :: r, F, L, Lf, env, er, s => by
    cases ht : env[i]? with
    | none =>
      obtain ⟨B, L', h1, h2, h3⟩ := EnvR.split (I := r) er s
      exact ⟨B, L', h1, h2, fun F' sm hb => by rw [frzS, ht]; exact h3 F' sm hb⟩
    | some t =>
      by_cases hv : t.isV = true
      · obtain ⟨o, L1, L2, e1, p, sl, put⟩ := er.get ht
        obtain ⟨v, rfl, tr⟩ := sl.tr hv
        have s1 : Sx H (L1 ++ (L2 ++ Lf)) F := s.perm (by walk_at "pm")
        have er1 : EnvR G (addC F L1) L2 σ (env.set i t.frz) := by
          have z := put (addC F L1) (some v) [] t.frz s1.addC_same (.val ((tr.mono s1.addC_same).frz fun c hc => s1.addC_mem hc))
          rw [set_self e1] at z
          exact z
        obtain ⟨B, L', h1, h2, h3⟩ := EnvR.split (I := r) er1 s1.stand
        refine ⟨L1 ++ B, L', by walk_at "pm", fun c hc => ?_, fun F' sm hb => ?_⟩
        · rcases List.mem_append.mp hc with hc | hc
          · exact tr.mt c hc
          · exact h2 c hc
        · rw [frzS, ht]
          exact h3 F' (addC_le sm fun c hc => hb c (List.mem_append_left _ hc)) fun c hc => hb c (List.mem_append_right _ hc)
      · obtain ⟨B, L', h1, h2, h3⟩ := EnvR.split (I := r) er s
        refine ⟨B, L', h1, h2, fun F' sm hb => ?_⟩
        rw [frzS, ht]
        have : t.frz = t := by cases t <;> first | rfl | exact absurd rfl hv
        show EnvR G F' L' σ (frzS r (env.set i t.frz))
        rw [this, set_self ht]; exact h3 F' sm hb
theorem frzS_get : ∀ {I : List Nat} {env : Env} {i : Nat} {t : T}, env[i]? = some t → (i ∈ I → (frzS I env)[i]? = some t.frz) ∧ (t.frz = t → (frzS I env)[i]? = some t)
  | [], env, i, t, h => ⟨fun z => (nomatch z), fun _ => h⟩
  | j :: r, env, i, t, h => by
    by_cases hj : i = j
    · subst hj
      have hl := (List.getElem?_eq_some_iff.mp h).1
      have e : (frzS (i :: r) env) = frzS r (env.set i t.frz) := by rw [frzS, h]
      have g : (env.set i t.frz)[i]? = some t.frz := by rw [List.getElem?_set_self hl]
      rw [e]
      have z := (frzS_get (I := r) g).2 (frz_frz t)
      exact ⟨fun _ => z, fun q => by rw [z, q]⟩
    · have e : (frzS (j :: r) env)[i]? = (frzS r (match env[j]? with | some t => env.set j t.frz | none => env))[i]? := rfl
      have g : (match env[j]? with | some t => env.set j t.frz | none => env)[i]? = some t := by
        cases env[j]? with
        | none => exact h
        | some u => rw [List.getElem?_set_ne (fun z => hj z.symm)]; exact h
      rw [e]
      exact ⟨fun hm => (frzS_get (I := r) g).1 (by rcases List.mem_cons.mp hm with z | z; exact absurd z hj; exact z), (frzS_get (I := r) g).2⟩
/-- a name that stands -/
theorem EnvR.view {I : List Nat} (er : EnvR G F L σ (frzS I env)) (hi : i ∈ I) (ht : env[i]? = some t) (hv : t.isV = true) : ∃ v, σ[i]? = some (some v) ∧ Tr G.K G.cn F [] v t.frz := by
  obtain ⟨o, L1, L2, e1, p, sl, put⟩ := er.get ((frzS_get ht).1 hi)
  obtain ⟨v, rfl, tr⟩ := sl.tr (by rw [frz_isV]; exact hv)
  refine ⟨v, e1, ?_⟩
  have : L1 = [] := frz_nil tr (frz_frz t)
  rw [this] at tr; exact tr
end
end En
set_option maxRecDepth 100000
set_option maxHeartbeats 1000000
namespace En
open PySem PySem.Spec PyProof.Rows L2 Gk
local macro_rules | `(tactic| walk_at "pm") => `(tactic| (simp only [List.perm_iff_count, List.count_append, List.count_cons, List.count_nil] at *; grind))
inductive Rs (α : Type) where
  | ok (a : α) (e : Env) | exc (C : Str) (x : T) (e : Env) | bad
noncomputable abbrev M (α : Type) := Env → Rs α
noncomputable def rp {α : Type} (a : α) : M α := fun e => .ok a e
noncomputable def rb {α β : Type} (m : M α) (k : α → M β) : M β := fun e => match m e with
  | .ok a e' => k a e'
  | .exc C x e' => .exc C x e'
  | .bad => .bad
/-- a def's outcome: its value, and what its handed-in things that are changed have become -/
inductive Fr where
  | ok (t : T) (os : List T) | exc (C : Str) (x : T) (os : List T) | bad
noncomputable abbrev RT (α β : Type) := Sg → Hp → List Cell → β → α → Prop
noncomputable def RV (G : Ct) : RT T V := fun _ F L v t => Tr G.K G.cn F L v t
noncomputable def RB : RT Bool Bool := fun _ _ L b a => L = [] ∧ b = a
noncomputable def PostG {α β : Type} (G : Ct) (R : RT α β) (W : WX) (F : Hp) (Lf : List Cell) (σ : Sg) (Q : β → Hp → Prop) : Rs α → Prop
  | .ok a e => ∀ b H' F' La Lb, Sx H' (La ++ (Lb ++ Lf)) F' → Same F F' → R σ F' La b a → EnvR G F' Lb σ e → Q b H'
  | .exc C x e => ∀ v d H' F' La Lb, Sx H' ((d, xdO C v) :: (La ++ (Lb ++ Lf))) F' → Same F F' → Tr G.K G.cn F' La v x → EnvR G F' Lb σ e → W (.ref (G.cn C)) (some d) σ H'
  | .bad => False
noncomputable def rdG {α β : Type} (G : Ct) (R : RT α β) (W : WX) (m : M α) : Sg → Hp → (β → Hp → Prop) → Prop := fun σ H Q => ∃ F L Lf env, Sx H (L ++ Lf) F ∧ EnvR G F L σ env ∧ PostG G R W F Lf σ Q (m env)
noncomputable def rdK {α β γ δ : Type} (G : Ct) (R : RT α β) (b : β) (R' : RT γ δ) (W : WX) (k : α → M γ) : Sg → Hp → (δ → Hp → Prop) → Prop := fun σ H Q =>
  ∃ F L1 L Lf env a, Sx H (L1 ++ (L ++ Lf)) F ∧ R σ F L1 b a ∧ EnvR G F L σ env ∧ PostG G R' W F Lf σ Q (k a env)
theorem same_trans {A B C : Hp} (h : Same A B) (h' : Same B C) : Same A C := fun a o e => h' _ _ (h _ _ e)
theorem same_refl {A : Hp} : Same A A := fun _ _ e => e
section
variable {α β γ δ ε ζ : Type} {G : Ct} {F F' H H' : Hp} {L L' L1 L0 Lf Mc : List Cell} {W : WX} {σ : Sg} {R : RT α β} {R' : RT γ δ} {R2 : RT ε ζ} {b : β} {k : α → M γ} {m : M α} {env : Env}
theorem PostG.mono {Q : β → Hp → Prop} {r : Rs α} (e : Same F F') (h : PostG G R W F Lf σ Q r) : PostG G R W F' Lf σ Q r := by
  cases r with
  | ok a e' => exact fun b H' F2 La Lb s sm r er => h b H' F2 La Lb s (same_trans e sm) r er
  | exc C x e' => exact fun v d H' F2 La Lb s sm r er => h v d H' F2 La Lb s (same_trans e sm) r er
  | bad => exact h
theorem rd_start {Q : δ → Hp → Prop} (h : rdG G R' W (rb m k) σ H Q) : rdG G R W m σ H (fun b H1 => rdK G R b R' W k σ H1 Q) := by
  obtain ⟨F, L, Lf, env, s, er, p⟩ := h
  refine ⟨F, L, Lf, env, s, er, ?_⟩
  unfold rb at p
  cases e : m env with
  | ok a e' =>
    rw [e] at p
    exact fun b H' F' La Lb s' sm r er' => ⟨F', La, Lb, Lf, e', a, s', r, er', p.mono sm⟩
  | exc C x e' => rw [e] at p; exact p
  | bad => rw [e] at p; exact p
noncomputable def Rp (R : RT α β) (R2 : RT ε ζ) : RT (α × ε) (β × ζ) := fun σ F L b a => ∃ La Lb, L.Perm (La ++ Lb) ∧ R σ F La b.1 a.1 ∧ R2 σ F Lb b.2 a.2
theorem rd_step {m2 : M ε} {k2 : α → ε → M γ} {Q : δ → Hp → Prop} (mn : ∀ {F F' L b a}, Same F F' → R σ F L b a → R σ F' L b a) (h : rdK G R b R' W (fun a => rb m2 (k2 a)) σ H Q) :
    rdG G R2 W m2 σ H (fun b2 H2 => rdK G (Rp R R2) (b, b2) R' W (fun p => k2 p.1 p.2) σ H2 Q) := by
  obtain ⟨F, L1, L, Lf, env, a, s, r, er, p⟩ := h
  refine ⟨F, L, L1 ++ Lf, env, s.perm (by walk_at "pm"), er, ?_⟩
  unfold rb at p
  dsimp only at p
  cases e : m2 env with
  | ok a2 e' =>
    rw [e] at p
    intro b2 H' F' La Lb s' sm r2 er'
    exact ⟨F', L1 ++ La, Lb, Lf, e', (a, a2), s'.perm (by walk_at "pm"), ⟨L1, La, .refl _, mn sm r, r2⟩, er', p.mono sm⟩
  | exc C x e' =>
    rw [e] at p
    intro v d H' F' La Lb s' sm r2 er'
    refine p v d H' F' La Lb ?_ sm r2 er'
    exact (s'.perm (M := L1 ++ ((d, xdO C v) :: (La ++ (Lb ++ Lf)))) (by walk_at "pm")).right
  | bad => rw [e] at p; exact p
theorem RV.mn {L : List Cell} {b : V} {a : T} (e : Same F F') (h : RV G σ F L b a) : RV G σ F' L b a := Tr.mono e h
end
inductive AT where
  | t (x : T) | o (x : T) | s (i : Nat) | io (i : Nat)
noncomputable def AT.isIo : AT → Bool
  | .io _ => true
  | _ => false
noncomputable def ATR (G : Ct) : RT AT V := fun σ F L v a => match a with
  | .t x => L = [] ∧ Tr G.K G.cn F [] v x
  | .o x => Tr G.K G.cn F L v x
  | .s i => L = [] ∧ σ[i]? = some (some v)
  | .io i => L = [] ∧ σ[i]? = some (some v)
inductive ATL (G : Ct) (σ : Sg) (F : Hp) : List Cell → List V → List AT → Prop
  | nil : ATL G σ F [] [] []
  | cons {v : V} {vs : List V} {a : AT} {as : List AT} {L L1 L0 : List Cell} : ATR G σ F L1 v a → ATL G σ F L0 vs as → L.Perm (L1 ++ L0) → ATL G σ F L (v :: vs) (a :: as)
inductive Opd where
  | val (m : M T) | own (m : M T) | sl (i : Nat) | io (i : Nat) | ch (c : M Bool) (a b : Opd)
noncomputable def evO : Opd → M AT
  | .val m => rb m fun t => rp (.t t.frz)
  | .own m => rb m fun t => rp (.o t)
  | .sl i => fun e => match e[i]? with
    | some t => if t.isV = true then .ok (.s i) e else .bad
    | none => .bad
  | .io i => fun e => match e[i]? with
    | some t => if t.isV = true then .ok (.io i) e else .bad
    | none => .bad
  | .ch c a b => rb c fun k => if k = true then evO a else evO b
noncomputable def evA : List Opd → M (List AT)
  | [] => rp []
  | o :: r => rb (evO o) fun a => rb (evA r) fun as => rp (a :: as)
noncomputable def takeS : List Nat → Env → Option (List T × Env)
  | [], e => some ([], e)
  | j :: r, e => match e[j]? with
    | some t => if t.isV = true then (match takeS r (e.set j .unb) with
      | some p => some (t :: p.1, p.2)
      | none => none) else none
    | none => none
noncomputable def putS : List Nat → List T → Env → Env
  | j :: r, o :: os, e => putS r os (e.set j o)
  | _, _, e => e
noncomputable def ios : List AT → List Nat
  | [] => []
  | .io i :: r => i :: ios r
  | _ :: r => ios r
noncomputable def bos : List AT → List Nat
  | [] => []
  | .s i :: r => i :: bos r
  | _ :: r => bos r
noncomputable def asm (e : Env) : List AT → List T → Option (List T)
  | [], _ => some []
  | .t x :: r, js => (asm e r js).map (x :: ·)
  | .o x :: r, js => (asm e r js).map (x :: ·)
  | .s i :: r, js => match e[i]? with
    | some t => if t.isV = true then (asm e r js).map (t.frz :: ·) else none
    | none => none
  | .io _ :: r, j :: js => (asm e r js).map (j :: ·)
  | .io _ :: _, [] => none
noncomputable def settle (ok : Bool) (I J : List Nat) (os : List T) (e : Env) : Env := putS J os (if ok = true then e else frzS I e)
/-- a call: of a def, a method, an operator -/
noncomputable def callM (mf : List T → Fr) (as : List AT) : M T := fun e => match takeS (ios as) e with
  | none => .bad
  | some (js, e1) => match asm e1 as js with
    | none => .bad
    | some ts => match mf ts with
      | .ok t os => .ok t (settle (t.fresh && T.freshA os) (bos as) (ios as) os e1)
      | .exc C x os => .exc C x (settle (x.fresh && T.freshA os) (bos as) (ios as) os e1)
      | .bad => .bad
noncomputable def PostF (G : Ct) (F : Hp) (Lf : List Cell) (ws : List V) (Q : VK) (E : XK) : Fr → Prop
  | .ok t os => ∀ r H' F' La Lb, Sx H' (La ++ (Lb ++ Lf)) F' → Same F F' → Tr G.K G.cn F' La r t → TrA G.K G.cn F' Lb ws os → Q r H'
  | .exc C x os => ∀ v d H' F' La Lb, Sx H' ((d, xdO C v) :: (La ++ (Lb ++ Lf))) F' → Same F F' → Tr G.K G.cn F' La v x → TrA G.K G.cn F' Lb ws os → E (.ref (G.cn C)) (some d) H'
  | .bad => False
noncomputable def pick : List Bool → List V → List V
  | true :: r, v :: vs => v :: pick r vs
  | false :: r, _ :: vs => pick r vs
  | _, _ => []
/-- a def's promise -/
structure LnT (G : Ct) (F : Hp) (io : List Bool) (ts : List T) : Prop where
  l : ts.length = io.length
  t : TbIn G F
noncomputable def spE (G : Ct) (io : List Bool) (mf : List T → Fr) : Sp := fun vs H Q E => ∃ F L Lf ts, Sx H (L ++ Lf) F ∧ TrA G.K G.cn F L vs ts ∧ LnT G F io ts ∧ PostF G F Lf (pick io vs) Q E (mf ts)
/-- what is asked of whatever is called -/
noncomputable def Does (G : Ct) (io : List Bool) (mf : List T → Fr) (B : List V → Hp → VK → XK → Prop) : Prop := ∀ vs H Q E, spE G io mf vs H Q E → B vs H Q E
section
variable {G : Ct} {F F' H H' : Hp} {L L' L1 L0 Lf Mc : List Cell} {W : WX} {σ : Sg} {env e' : Env} {vs ws : List V} {ts os : List T} {as : List AT}
theorem ATR.mn {v : V} {a : AT} (e : Same F F') (h : ATR G σ F L v a) : ATR G σ F' L v a := by
  cases a with
  | t x => exact ⟨h.1, h.2.mono e⟩
  | o x => exact Tr.mono e h
  | s i => exact h
  | io i => exact h
theorem ATL.mn (e : Same F F') (h : ATL G σ F L vs as) : ATL G σ F' L vs as := by
  induction h with
  | nil => exact .nil
  | cons a b p ih => exact .cons (a.mn e) ih p
/-- names' things taken out -/
theorem EnvR.take : ∀ {J : List Nat} {L : List Cell} {env : Env}, EnvR G F L σ env → takeS J env = some (ts, e') → ∃ LJ L0 ws, L.Perm (LJ ++ L0) ∧ EnvR G F L0 σ e' ∧ TrA G.K G.cn F LJ ws ts ∧ J.map (fun j => σ[j]?) = ws.map (fun v => some (some v)) := by
  intro J
  induction J generalizing ts e' with
  | nil => intro L env er h; simp [takeS] at h; obtain ⟨rfl, rfl⟩ := h; exact ⟨[], L, [], .refl _, er, .nil, rfl⟩
  | cons j r ih =>
    intro L env er h
    unfold takeS at h
    cases ht : env[j]? with
    | none => rw [ht] at h; simp at h
    | some t =>
      rw [ht] at h
      by_cases hv : t.isV = true
      · simp only [hv, if_true] at h
        cases hp : takeS r (env.set j .unb) with
        | none => rw [hp] at h; simp at h
        | some p =>
          rw [hp] at h
          simp at h
          obtain ⟨rfl, rfl⟩ := h
          obtain ⟨o, La, Lb, e1, pp, sl, put⟩ := er.get ht
          obtain ⟨v, rfl, tr⟩ := sl.tr hv
          have er2 : EnvR G F Lb σ (env.set j .unb) := by
            have z := put F (some v) [] .unb same_refl (.unb _)
            rw [set_self e1] at z; exact z
          obtain ⟨LJ, L0, ws, q1, q2, q3, q4⟩ := ih (e' := p.2) (ts := p.1) er2 hp
          exact ⟨La ++ LJ, L0, v :: ws, by walk_at "pm", q2, .cons tr q3 (.refl _), by rw [List.map_cons, List.map_cons, e1, q4]⟩
      · simp only [if_neg hv] at h; cases h
/-- .. and put back -/
theorem EnvR.put : ∀ {J : List Nat} {L LJ : List Cell} {ws : List V} {os : List T} {env : Env}, EnvR G F L σ env → TrA G.K G.cn F LJ ws os → J.map (fun j => σ[j]?) = ws.map (fun v => some (some v)) →
    ∃ L' D, (LJ ++ L).Perm (L' ++ D) ∧ EnvR G F L' σ (putS J os env)
  | [], L, LJ, ws, os, env, er, tr, h => ⟨L, LJ, by walk_at "pm", by cases os <;> exact er⟩
  | j :: r, L, LJ, [], os, env, er, tr, h => by simp at h
  | j :: r, L, LJ, w :: ws, os, env, er, tr, h => by
    cases tr with
    | @cons _ _ t ts _ L1 L0 a b p =>
      simp only [List.map_cons, List.cons.injEq] at h
      have hl : j < env.length := by rw [← er.len]; exact (List.getElem?_eq_some_iff.mp h.1).1
      obtain ⟨o, La, Lb, e1, pp, sl, put⟩ := er.get (List.getElem?_eq_getElem hl)
      have er2 : EnvR G F (L1 ++ Lb) σ (env.set j t) := by
        have z := put F (some w) L1 t same_refl (.val a)
        rw [set_self h.1] at z; exact z
      obtain ⟨L', D, q1, q2⟩ := EnvR.put (J := r) er2 b h.2
      exact ⟨L', La ++ D, by walk_at "pm", q2⟩
theorem TrA.two {K : PySem.W.Frag} {cn : Str → Addr} {v : V} {t : T} (h : TrA K cn F L vs ts) (h1 : Tr K cn F L1 v t) : TrA K cn F (L1 ++ L) (v :: vs) (t :: ts) := .cons h1 h (.refl _)
/-- the arguments' trees -/
theorem asm_ok {I : List Nat} : ∀ {as : List AT} {vs : List V} {L1 LJ : List Cell} {ws : List V} {js ts : List T}, ATL G σ F L1 vs as → EnvR G F L' σ (frzS I env) → (∀ i ∈ bos as, i ∈ I) → TrA G.K G.cn F LJ ws js → (ios as).map (fun j => σ[j]?) = ws.map (fun v => some (some v)) → asm env as js = some ts →
    (∃ D L2, (L1 ++ LJ).Perm (L2 ++ D) ∧ TrA G.K G.cn F L2 vs ts) ∧ ts.length = as.length ∧ pick (as.map AT.isIo) vs = ws
  | [], _, _, LJ, ws, js, ts, .nil, er, hI, tj, hw, h => by
    simp [asm] at h; subst h
    have : ws = [] := by simpa [ios] using hw.symm
    subst this
    exact ⟨⟨LJ, [], by simp, .nil⟩, rfl, rfl⟩
  | .t x :: r, v :: vs, L1, LJ, ws, js, ts, .cons a b p, er, hI, tj, hw, h => by
    simp only [asm, Option.map_eq_some_iff] at h
    obtain ⟨ts', h, rfl⟩ := h
    obtain ⟨⟨D, L2, q1, q2⟩, q3, q4⟩ := asm_ok b er hI tj hw h
    obtain ⟨rfl, a⟩ := a
    exact ⟨⟨D, L2, by walk_at "pm", q2.two a⟩, by simp [q3], q4⟩
  | .o x :: r, v :: vs, L1, LJ, ws, js, ts, .cons (L1 := A) a b p, er, hI, tj, hw, h => by
    simp only [asm, Option.map_eq_some_iff] at h
    obtain ⟨ts', h, rfl⟩ := h
    obtain ⟨⟨D, L2, q1, q2⟩, q3, q4⟩ := asm_ok b er hI tj hw h
    exact ⟨⟨D, A ++ L2, by walk_at "pm", q2.two a⟩, by simp [q3], q4⟩
  | .s i :: r, v :: vs, L1, LJ, ws, js, ts, .cons a b p, er, hI, tj, hw, h => by
    simp only [asm] at h
    cases ht : env[i]? with
    | none => rw [ht] at h; cases h
    | some t =>
      rw [ht] at h
      by_cases hv : t.isV = true
      · simp only [hv, if_true, Option.map_eq_some_iff] at h
        obtain ⟨ts', h, rfl⟩ := h
        obtain ⟨⟨D, L2, q1, q2⟩, q3, q4⟩ := asm_ok b er (fun i hi => hI i (List.mem_cons_of_mem _ hi)) tj hw h
        obtain ⟨rfl, e1⟩ := a
        obtain ⟨v', e2, tr⟩ := er.view (hI i List.mem_cons_self) ht hv
        rw [e1] at e2; cases e2
        exact ⟨⟨D, L2, by walk_at "pm", q2.two tr⟩, by simp [q3], q4⟩
      · simp only [if_neg hv] at h; cases h
  | .io i :: r, v :: vs, L1, LJ, ws, [], ts, .cons a b p, er, hI, tj, hw, h => by simp [asm] at h
  | .io i :: r, v :: vs, L1, LJ, ws, j :: js, ts, .cons a b p, er, hI, tj, hw, h => by
    simp only [asm, Option.map_eq_some_iff] at h
    obtain ⟨ts', h, rfl⟩ := h
    cases tj with
    | @cons w ws' _ _ _ A B c d p2 =>
      simp only [ios, List.map_cons, List.cons.injEq] at hw
      obtain ⟨⟨D, L2, q1, q2⟩, q3, q4⟩ := asm_ok b er hI d hw.2 h
      obtain ⟨rfl, e1⟩ := a
      have : v = w := by have := e1.symm.trans hw.1; simpa using this
      subst this
      exact ⟨⟨D, A ++ L2, by walk_at "pm", q2.two c⟩, by simp [q3], by simp [pick, AT.isIo, q4]⟩
theorem call_core {mf : List T → Fr} {B : List V → Hp → VK → XK → Prop} {Q : VK} (hB : Does G (as.map AT.isIo) mf B)
    (s : Sx H (L1 ++ (L ++ Lf)) F) (r : ATL G σ F L1 vs as) (er : EnvR G F L σ env) (p : PostG G (RV G) W F Lf σ Q (callM mf as env)) : B vs H Q (fun c d H' => W c d σ H') := by
  unfold callM at p
  cases e1 : takeS (ios as) env with
  | none => rw [e1] at p; exact p.elim
  | some je =>
    obtain ⟨js, ev⟩ := je
    rw [e1] at p
    simp only at p
    cases e2 : asm ev as js with
    | none => rw [e2] at p; exact p.elim
    | some ts =>
      rw [e2] at p
      simp only at p
      obtain ⟨LJ, L0, ws, p1, er0, tj, hw⟩ := er.take e1
      have s1 : Sx H (L0 ++ (LJ ++ (L1 ++ Lf))) F := s.perm (by walk_at "pm")
      obtain ⟨Bc, L', p2, mt, view⟩ := er0.split (I := bos as) s1
      have s2 : Sx H (Bc ++ (L' ++ (LJ ++ (L1 ++ Lf)))) F := s1.perm (by walk_at "pm")
      have s3 := s2.stand
      have sF := s2.addC_same
      have er1 := view _ sF fun c hc => s2.addC_mem hc
      obtain ⟨⟨D, L2, q1, q2⟩, q3, q4⟩ := asm_ok (r.mn sF) er1 (fun _ h => h) (tj.mono sF) hw e2
      refine hB _ _ _ _ ⟨addC F Bc, L2, L' ++ Lf, ts, (s3.perm (M := D ++ (L2 ++ (L' ++ Lf))) (by walk_at "pm")).right, q2, ⟨by rw [List.length_map]; exact q3, er.tb.mono sF⟩, ?_⟩
      rw [q4]
      cases em : mf ts with
      | bad => rw [em] at p; exact p
      | ok t os =>
        rw [em] at p
        intro v H' F' La Lb s' sm tr to
        by_cases fr : (t.fresh && T.freshA os) = true
        · have fr' := fr
          rw [Bool.and_eq_true] at fr'
          obtain ⟨b1, b2, b3⟩ := s'.back mt s2 sm
          obtain ⟨Le, De, p5, ee⟩ := (er0.mono b2).put (to.less mt b3 fr'.2) hw
          refine p v H' _ La Le ?_ b2 (tr.less mt b3 fr'.1) (by unfold settle; rw [if_pos fr]; exact ee)
          exact (b1.perm (M := De ++ (La ++ (Le ++ Lf))) (by walk_at "pm")).right
        · obtain ⟨Le, De, p5, ee⟩ := (er1.mono sm).put to hw
          refine p v H' _ La Le ?_ (same_trans sF sm) tr (by unfold settle; rw [if_neg fr]; exact ee)
          exact (s'.perm (M := De ++ (La ++ (Le ++ Lf))) (by walk_at "pm")).right
      | exc C x os =>
        rw [em] at p
        intro v d H' F' La Lb s' sm tr to
        by_cases fr : (x.fresh && T.freshA os) = true
        · have fr' := fr
          rw [Bool.and_eq_true] at fr'
          obtain ⟨b1, b2, b3⟩ := s'.back mt s2 sm
          obtain ⟨Le, De, p5, ee⟩ := (er0.mono b2).put (to.less mt b3 fr'.2) hw
          refine p v d H' _ La Le ?_ b2 (tr.less mt b3 fr'.1) (by unfold settle; rw [if_pos fr]; exact ee)
          exact (b1.perm (M := De ++ ((d, xdO C v) :: (La ++ (Le ++ Lf)))) (by walk_at "pm")).right
        · obtain ⟨Le, De, p5, ee⟩ := (er1.mono sm).put to hw
          refine p v d H' _ La Le ?_ (same_trans sF sm) tr (by unfold settle; rw [if_neg fr]; exact ee)
          exact (s'.perm (M := De ++ ((d, xdO C v) :: (La ++ (Le ++ Lf)))) (by walk_at "pm")).right
end
end En
set_option maxRecDepth 100000
set_option maxHeartbeats 1000000
namespace En
open PySem PySem.Spec PyProof.Rows L2 Gk
local macro_rules | `(tactic| walk_at "pm") => `(tactic| (simp only [List.perm_iff_count, List.count_append, List.count_cons, List.count_nil] at *; grind))
noncomputable def T.un : T → T
  | .atv _ t => t.un
  | t => t
noncomputable def Opd.isIo : Opd → Bool
  | .io _ => true
  | _ => false
noncomputable def ROp (G : Ct) (io : Bool) : RT AT V := fun σ F L v a => ATR G σ F L v a ∧ a.isIo = io
noncomputable def RLi (G : Ct) (io : List Bool) : RT (List AT) (List V) := fun σ F L vs as => ATL G σ F L vs as ∧ as.map AT.isIo = io
section
variable {X : Cx} {e : Expr} {es : List Expr} {t t' : TE}
theorem _root_.L2.PE.imp (h : PE X e t) (i : ∀ σ H Q, t' σ H Q → t σ H Q) : PE X e t' := ⟨fun pins s σ H Q I q => h.run pins s σ H Q I (i σ H Q q)⟩
theorem _root_.L2.PT.imp {t t' : TT} (h : PT X e t) (i : ∀ σ H Q, t' σ H Q → t σ H Q) : PT X e t' := ⟨fun pins s σ H Q I q => h.run pins s σ H Q I (i σ H Q q)⟩
theorem _root_.L2.PA.imp {t t' : TA} (h : PA X es t) (i : ∀ σ H Q, t' σ H Q → t σ H Q) : PA X es t' := ⟨fun pos pins s σ H Q I q => h.run pos pins s σ H Q I (i σ H Q q)⟩
theorem _root_.L2.PW.imp {t t' : TT} (h : PW X e t) (i : ∀ σ H Q, t' σ H Q → t σ H Q) : PW X e t' := ⟨fun wh pins s σ H Q I q => h.run wh pins s σ H Q I (i σ H Q q)⟩
end
section
variable {α β γ δ ε ζ : Type} {G : Ct} {F F' H H' : Hp} {L L' L1 L0 Lf Mc : List Cell} {W : WX} {σ : Sg} {R : RT α β} {R' : RT γ δ} {R2 : RT ε ζ} {b : β} {k : α → M γ} {m : M α} {env : Env} {Q Q' : β → Hp → Prop}
theorem rdG_mono (h : rdG G R W m σ H Q) (i : ∀ b H, Q b H → Q' b H) : rdG G R W m σ H Q' := by
  obtain ⟨F, L, Lf, env, s, er, p⟩ := h
  refine ⟨F, L, Lf, env, s, er, ?_⟩
  cases e : m env with
  | ok a e' => rw [e] at p; exact fun b H' F' La Lb s' sm r er' => i _ _ (p b H' F' La Lb s' sm r er')
  | exc C x e' => rw [e] at p; exact p
  | bad => rw [e] at p; exact p
theorem rdK_rp {c : δ} {f : α → γ} {Q : δ → Hp → Prop} (h : rdK G R b R' W (fun a => rp (f a)) σ H Q) (i : ∀ F L a, R σ F L b a → R' σ F L c (f a)) : Q c H := by
  obtain ⟨F, L1, L, Lf, env, a, s, r, er, p⟩ := h
  exact p c H F L1 L s same_refl (i _ _ _ r) er
theorem rd_rp {a : α} (h : rdG G R W (rp a) σ H Q) (i : ∀ F, R σ F [] b a) : Q b H := by
  obtain ⟨F, L, Lf, env, s, er, p⟩ := h
  exact p b H F [] L s same_refl (i F) er
theorem ROp.mn {io : Bool} {F F' : Hp} {L : List Cell} {b : V} {a : AT} (e : Same F F') (h : ROp G io σ F L b a) : ROp G io σ F' L b a := ⟨h.1.mn e, h.2⟩
theorem RLi.mn {io : List Bool} {F F' : Hp} {L : List Cell} {b : List V} {a : List AT} (e : Same F F') (h : RLi G io σ F L b a) : RLi G io σ F' L b a := ⟨h.1.mn e, h.2⟩
theorem Rp.mn (m1 : ∀ {F F' L b a}, Same F F' → R σ F L b a → R σ F' L b a) (m2 : ∀ {F F' L b a}, Same F F' → R2 σ F L b a → R2 σ F' L b a) {F F' : Hp} {L : List Cell} {b : β × ζ} {a : α × ε} (e : Same F F') (h : Rp R R2 σ F L b a) : Rp R R2 σ F' L b a := by
  obtain ⟨La, Lb, p, h1, h2⟩ := h
  exact ⟨La, Lb, p, m1 e h1, m2 e h2⟩
end
/-- the readings -/
noncomputable abbrev DE (G : Ct) (W : WX) (X : Cx) (e : Expr) (m : M T) : Prop := PE X e (rdG G (RV G) W m)
noncomputable abbrev DT (G : Ct) (W : WX) (X : Cx) (e : Expr) (c : M Bool) : Prop := PT X e (rdG G RB W c)
noncomputable abbrev DO (G : Ct) (W : WX) (X : Cx) (e : Expr) (o : Opd) : Prop := PE X e (rdG G (ROp G o.isIo) W (evO o))
noncomputable abbrev DA (G : Ct) (W : WX) (X : Cx) (es : List Expr) (os : List Opd) : Prop := PA X es (rdG G (RLi G (os.map Opd.isIo)) W (evA os))
noncomputable def callE1 (mf : List T → Fr) (a : Opd) : M T := rb (evO a) fun x => callM mf [x]
noncomputable def callE2 (mf : List T → Fr) (a b : Opd) : M T := rb (evO a) fun x => rb (evO b) fun y => callM mf [x, y]
noncomputable def callE (mf : List T → Fr) (os : List Opd) : M T := rb (evA os) (callM mf)
noncomputable def okA (chk : T → Bool) : AT → Env → Bool
  | .t x, _ => chk x
  | .o x, _ => chk x
  | .s i, e => match e[i]? with
    | some t => t.isV && chk t
    | none => false
  | .io i, e => match e[i]? with
    | some t => t.isV && chk t
    | none => false
noncomputable def chkM {α : Type} (chk : T → Bool) (a : AT) (m : M α) : M α := fun e => if okA chk a e = true then m e else .bad
noncomputable def methE (chk : T → Bool) (mf : List T → Fr) (o : Opd) (os : List Opd) : M T := rb (evO o) fun x => chkM chk x (rb (evA os) fun as => callM mf (x :: as))
noncomputable def TrH (G : Ct) (H : Hp) (v : V) (t : T) : Prop := ∃ F L, Smh F H ∧ (∀ c ∈ L, H c.1 = some c.2) ∧ Tr G.K G.cn F L v t
section
variable {G : Ct} {W : WX} {X : Cx} {e a b c : Expr} {es : List Expr} {m m1 m2 : M T} {o o1 o2 : Opd} {os : List Opd} {i : Nat} {pos : Pos} {σ : Sg} {H : Hp} {mf : List T → Fr}
theorem do_val (h : DE G W X e m) : DO G W X e (.val m) := h.imp fun σ H Q q => by
  obtain ⟨F, L, Lf, env, s, er, p⟩ := q
  refine ⟨F, L, Lf, env, s, er, ?_⟩
  unfold evO rb at p
  dsimp only at p
  cases e : m env with
  | ok a e' =>
    rw [e] at p
    intro v H' F' La Lb s' sm r er'
    exact p v H' _ [] Lb (s'.stand.perm (by simp)) (same_trans sm s'.addC_same) ⟨⟨rfl, (Tr.mono s'.addC_same r).frz fun c hc => s'.addC_mem hc⟩, rfl⟩ (er'.mono s'.addC_same)
  | exc C x e' => rw [e] at p; exact p
  | bad => rw [e] at p; exact p
theorem do_own (h : DE G W X e m) : DO G W X e (.own m) := h.imp fun σ H Q q => by
  obtain ⟨F, L, Lf, env, s, er, p⟩ := q
  refine ⟨F, L, Lf, env, s, er, ?_⟩
  unfold evO rb at p
  dsimp only at p
  cases e : m env with
  | ok a e' => rw [e] at p; exact fun v H' F' La Lb s' sm r er' => p v H' F' La Lb s' sm ⟨r, rfl⟩ er'
  | exc C x e' => rw [e] at p; exact p
  | bad => rw [e] at p; exact p
theorem slot_of {F : Hp} {L : List Cell} {env : Env} {t : T} (er : EnvR G F L σ env) (h : env[i]? = some t) (hv : t.isV = true) : ∃ v, σ[i]? = some (some v) := by
  obtain ⟨o, La, Lb, e1, pp, sl, put⟩ := er.get h
  obtain ⟨v, rfl, tr⟩ := sl.tr hv
  exact ⟨v, e1⟩
theorem do_sl (h : PE X e (tVar i)) : DO G W X e (.sl i) := h.imp fun σ H Q q => by
  obtain ⟨F, L, Lf, env, s, er, p⟩ := q
  unfold evO at p
  cases ht : env[i]? with
  | none => rw [ht] at p; exact p.elim
  | some t =>
    rw [ht] at p
    by_cases hv : t.isV = true
    · simp only [hv, if_true] at p
      obtain ⟨v, e1⟩ := slot_of er ht hv
      exact ⟨v, e1, p v H F [] L s same_refl ⟨⟨rfl, e1⟩, rfl⟩ er⟩
    · simp only [if_neg hv] at p; exact p.elim
theorem do_io (h : PE X e (tVar i)) : DO G W X e (.io i) := h.imp fun σ H Q q => by
  obtain ⟨F, L, Lf, env, s, er, p⟩ := q
  unfold evO at p
  cases ht : env[i]? with
  | none => rw [ht] at p; exact p.elim
  | some t =>
    rw [ht] at p
    by_cases hv : t.isV = true
    · simp only [hv, if_true] at p
      obtain ⟨v, e1⟩ := slot_of er ht hv
      exact ⟨v, e1, p v H F [] L s same_refl ⟨⟨rfl, e1⟩, rfl⟩ er⟩
    · simp only [if_neg hv] at p; exact p.elim
theorem da_nil : DA G W X [] [] := (L2.PA.imp pa_nil fun σ H Q q => by
  show Q [] H
  exact rd_rp (a := ([] : List AT)) q fun F => ⟨.nil, rfl⟩)
theorem da_cons (h : DO G W X e o) (r : DA G W X es os) (hs : starEach (e :: es) X.env = (false, eval e X.env) :: starEach es X.env := by rfl) : DA G W X (e :: es) (o :: os) := (pa_cons h r hs).imp fun σ H Q q => by
  refine rdG_mono (rd_start (R := ROp G o.isIo) q) fun v H1 q1 => ?_
  refine rdG_mono (rd_step (R2 := RLi G (os.map Opd.isIo)) (fun e h => ROp.mn e h) q1) fun vs H2 q2 => ?_
  refine rdK_rp (c := v :: vs) q2 ?_
  rintro F L ⟨x, as⟩ ⟨La, Lb, p, h1, h2⟩
  exact ⟨.cons h1.1 h2.1 p, by simp [h1.2, h2.2]⟩
/-- a call's end -/
theorem fin_call {io : List Bool} {vs : List V} {B : List V → Hp → VK → XK → Prop} {Q : VK} (hB : Does G io mf B) (h : rdK G (RLi G io) vs (RV G) W (callM mf) σ H Q) : B vs H Q (fun c d H' => W c d σ H') := by
  obtain ⟨F, L1, L, Lf, env, as, s, r, er, p⟩ := h
  exact call_core (by rw [r.2]; exact hB) s r.1 er p
theorem fin_call1 {io : Bool} {v : V} {B : List V → Hp → VK → XK → Prop} {Q : VK} (hB : Does G [io] mf B) (h : rdK G (ROp G io) v (RV G) W (fun x => callM mf [x]) σ H Q) : B [v] H Q (fun c d H' => W c d σ H') := by
  obtain ⟨F, L1, L, Lf, env, a, s, r, er, p⟩ := h
  exact call_core (as := [a]) (by simp only [List.map_cons, List.map_nil, r.2]; exact hB) s (.cons r.1 .nil (by simp)) er p
theorem fin_call2 {io jo : Bool} {v w : V} {B : List V → Hp → VK → XK → Prop} {Q : VK} (hB : Does G [io, jo] mf B) (h : rdK G (Rp (ROp G io) (ROp G jo)) (v, w) (RV G) W (fun p => callM mf [p.1, p.2]) σ H Q) : B [v, w] H Q (fun c d H' => W c d σ H') := by
  obtain ⟨F, L1, L, Lf, env, ⟨a, b⟩, s, ⟨La, Lb, pp, r1, r2⟩, er, p⟩ := h
  exact call_core (as := [a, b]) (by simp only [List.map_cons, List.map_nil, r1.2, r2.2]; exact hB) s (.cons r1.1 (.cons r2.1 .nil (by simp; exact .refl _)) (by simpa using pp)) er p
theorem fin_callm {io : Bool} {is : List Bool} {v : V} {vs : List V} {B : List V → Hp → VK → XK → Prop} {Q : VK} (hB : Does G (io :: is) mf B) (h : rdK G (Rp (ROp G io) (RLi G is)) (v, vs) (RV G) W (fun p => callM mf (p.1 :: p.2)) σ H Q) : B (v :: vs) H Q (fun c d H' => W c d σ H') := by
  obtain ⟨F, L1, L, Lf, env, ⟨a, as⟩, s, ⟨La, Lb, pp, r1, r2⟩, er, p⟩ := h
  exact call_core (as := a :: as) (by simp only [List.map_cons, r1.2, r2.2]; exact hB) s (.cons r1.1 r2.1 pp) er p
/-- a receiver that is of its kind -/
theorem rdK_chk {γ δ : Type} {io : Bool} {v : V} {chk : T → Bool} {R' : RT γ δ} {k : AT → M γ} {Q : δ → Hp → Prop} (h : rdK G (ROp G io) v R' W (fun x => chkM chk x (k x)) σ H Q) : (∃ t, chk t = true ∧ TrH G H v t) ∧ rdK G (ROp G io) v R' W k σ H Q := by
  obtain ⟨F, L1, L, Lf, env, a, s, r, er, p⟩ := h
  unfold chkM at p
  dsimp only at p
  by_cases hc : okA chk a env = true
  · rw [if_pos hc] at p
    refine ⟨?_, F, L1, L, Lf, env, a, s, r, er, p⟩
    have slot : ∀ i : Nat, σ[i]? = some (some v) → (match env[i]? with | some t => t.isV && chk t | none => false) = true → ∃ t, chk t = true ∧ TrH G H v t := by
      intro i e1 hc
      cases ht : env[i]? with
      | none => rw [ht] at hc; cases hc
      | some t =>
        rw [ht] at hc
        simp only [Bool.and_eq_true] at hc
        obtain ⟨o, La, Lb, e2, pp, sl, put⟩ := er.get ht
        obtain ⟨v', rfl, tr⟩ := sl.tr hc.1
        rw [e1] at e2; cases e2
        exact ⟨t, hc.2, F, La, s.sm, fun c hcm => (s.ce c (List.mem_append_right _ (List.mem_append_left _ (pp.mem_iff.mpr (List.mem_append_left _ hcm))))).1, tr⟩
    cases a with
    | t x => exact ⟨x, hc, F, [], s.sm, (fun _ z => nomatch z), r.1.2⟩
    | o x => exact ⟨x, hc, F, L1, s.sm, fun c hcm => (s.ce c (List.mem_append_left _ hcm)).1, r.1⟩
    | s i => exact slot i r.1.2 hc
    | io i => exact slot i r.1.2 hc
  · rw [if_neg hc] at p; exact p.elim
/-- constants -/
theorem de_c {v : V} {t : T} (h : PE X e (tC v)) (ht : ∀ F, Tr G.K G.cn F [] v t) : DE G W X e (rp t) := h.imp fun σ H Q q => rd_rp (b := v) q ht
/-- names -/
noncomputable def cpE (i : Nat) : M T := fun e => match e[i]? with
  | some t => if t.isV = true then .ok t.frz (e.set i t.frz) else .bad
  | none => .bad
noncomputable def mvE (i : Nat) : M T := fun e => match e[i]? with
  | some t => if t.isV = true then .ok t (e.set i .unb) else .bad
  | none => .bad
theorem de_cp (h : PE X e (tVar i)) : DE G W X e (cpE i) := h.imp fun σ H Q q => by
  obtain ⟨F, L, Lf, env, s, er, p⟩ := q
  unfold cpE at p
  cases ht : env[i]? with
  | none => rw [ht] at p; exact p.elim
  | some t =>
    rw [ht] at p
    by_cases hv : t.isV = true
    · simp only [hv, if_true] at p
      obtain ⟨o, La, Lb, e1, pp, sl, put⟩ := er.get ht
      obtain ⟨v, rfl, tr⟩ := sl.tr hv
      have s' : Sx H (La ++ (Lb ++ Lf)) F := s.perm (by walk_at "pm")
      have tr' := (Tr.mono s'.addC_same tr).frz fun c hc => s'.addC_mem hc
      refine ⟨v, e1, p v H _ [] Lb (s'.stand) s'.addC_same tr' ?_⟩
      have z := put _ (some v) [] _ s'.addC_same (.val tr')
      rw [set_self e1] at z; exact z
    · simp only [if_neg hv] at p; exact p.elim
theorem de_mv (h : PE X e (tVar i)) : DE G W X e (mvE i) := h.imp fun σ H Q q => by
  obtain ⟨F, L, Lf, env, s, er, p⟩ := q
  unfold mvE at p
  cases ht : env[i]? with
  | none => rw [ht] at p; exact p.elim
  | some t =>
    rw [ht] at p
    by_cases hv : t.isV = true
    · simp only [hv, if_true] at p
      obtain ⟨o, La, Lb, e1, pp, sl, put⟩ := er.get ht
      obtain ⟨v, rfl, tr⟩ := sl.tr hv
      refine ⟨v, e1, p v H F La Lb (s.perm (by walk_at "pm")) same_refl tr ?_⟩
      have z := put F (some v) [] _ same_refl (.unb _)
      rw [set_self e1] at z; exact z
    · simp only [if_neg hv] at p; exact p.elim
/-- operators -/
noncomputable def Does2 (G : Ct) (r : R2) (mf : List T → Fr) : Prop := ∀ x y H Q E, spE G [false, false] mf [x, y] H Q E → r x y H Q
theorem op_imp {r : R2} (hd : Does2 G r mf) (h1 : o1.isIo = false) (h2 : o2.isIo = false) {Q : VK} (q : rdG G (RV G) W (callE2 mf o1 o2) σ H Q) : tOp r (rdG G (ROp G o1.isIo) W (evO o1)) (rdG G (ROp G o2.isIo) W (evO o2)) σ H Q := by
  refine rdG_mono (rd_start (R := ROp G o1.isIo) q) fun v H1 q1 => ?_
  refine rdG_mono (rd_step (R2 := ROp G o2.isIo) (fun e h => ROp.mn e h) q1) fun w H2 q2 => ?_
  rw [h1, h2] at q2
  exact fin_call2 (B := fun vs H Q _ => ∃ x y, vs = [x, y] ∧ r x y H Q) (fun vs H Q E h => by
    have hl : vs.length = 2 := by
      obtain ⟨F, L, Lf, ts, s, tr, ln, _⟩ := h
      have : vs.length = ts.length := tr.len
      rw [this, ln.l]; rfl
    match vs, hl with
    | [x, y], _ => exact ⟨x, y, rfl, hd _ _ _ _ _ h⟩) q2 |>.elim fun x h => h.elim fun y h => by
      obtain ⟨e, h⟩ := h
      cases e; exact h
theorem de_op {op : Operator} {r : R2} (ho : OpR X (binaryOp op) r) (hd : Does2 G r mf) (ha : DO G W X a o1) (hb : DO G W X b o2) (h1 : o1.isIo = false := by rfl) (h2 : o2.isIo = false := by rfl) : DE G W X (.BinOp a op b pos) (callE2 mf o1 o2) :=
  (pe_op ho ha hb).imp fun σ H Q q => op_imp hd h1 h2 q
theorem de_cmp {op : CmpOp} {r : R2} (ho : OpR X (compareOp op) r) (hd : Does2 G r mf) (ha : DO G W X a o1) (hb : DO G W X b o2) (hm : behindInMarks op b = false) (h1 : o1.isIo = false := by rfl) (h2 : o2.isIo = false := by rfl) : DE G W X (.Compare a [op] [b] pos) (callE2 mf o1 o2) :=
  (pe_cmpR ho ha hb hm).imp fun σ H Q q => op_imp hd h1 h2 q
theorem de_ix {r : R2} (ho : IxR X r) (hd : Does2 G r mf) (ha : DO G W X a o1) (hb : DO G W X b o2) (hs : PlainIx b) (h1 : o1.isIo = false := by rfl) (h2 : o2.isIo = false := by rfl) : DE G W X (.Subscript a b pos) (callE2 mf o1 o2) :=
  (pe_ix ho ha hb hs).imp fun σ H Q q => op_imp hd h1 h2 q
/-- tests -/
noncomputable def tstB (m : M T) : M Bool := rb m fun t => match t.un with
  | .bl b => rp b
  | _ => fun _ => .bad
theorem un_bl {F : Hp} {L : List Cell} {v : V} : ∀ {t : T} {k : Bool} {L : List Cell}, Tr G.K G.cn F L v t → t.un = .bl k → v = .bl k
  | .bl _, _, _, h, e => by cases h; cases e; rfl
  | .atv _ t, _, _, h, e => by
    cases h with | atv h p => exact un_bl (L := L) h e
theorem rd_tstB {Q : Bool → Hp → Prop} (h : rdG G RB W (tstB m) σ H Q) : rdG G (RV G) W m σ H (fun x H' => ∃ k, x = .bl k ∧ Q k H') := by
  refine rdG_mono (rd_start (R := RV G) h) fun v H1 q => ?_
  obtain ⟨F, L1, L, Lf, env, a, s, r, er, p⟩ := q
  dsimp only at p
  cases e : a.un with
  | bl k => rw [e] at p; exact ⟨k, un_bl (L := []) r e, p k H1 F [] L (s.right) same_refl ⟨rfl, rfl⟩ er⟩
  | _ => rw [e] at p; exact p.elim
theorem dt_cmp {op : CmpOp} {r : R2} (ho : OpR X (compareOp op) r) (hd : Does2 G r mf) (ha : DO G W X a o1) (hb : DO G W X b o2) (hm : behindInMarks op b = false) (h1 : o1.isIo = false := by rfl) (h2 : o2.isIo = false := by rfl) : DT G W X (.Compare a [op] [b] pos) (tstB (callE2 mf o1 o2)) :=
  (pt_cmpR ho ha hb hm).imp fun σ H Q q => op_imp hd h1 h2 (rd_tstB q)
/-- a choice -/
noncomputable def ifE {α : Type} (c : M Bool) (a b : M α) : M α := rb c fun k => if k = true then a else b
theorem rd_if {α β : Type} {R : RT α β} {c : M Bool} {m1 m2 : M α} {Q : β → Hp → Prop} (h : rdG G R W (ifE c m1 m2) σ H Q) : rdG G RB W c σ H (fun k H1 => if k = true then rdG G R W m1 σ H1 Q else rdG G R W m2 σ H1 Q) := by
  refine rdG_mono (rd_start (R := RB) h) fun v H1 q => ?_
  obtain ⟨F, L1, L, Lf, env, a, s, r, er, p⟩ := q
  obtain ⟨rfl, rfl⟩ := r
  cases v with
  | true => simp only [if_true] at p ⊢; exact ⟨F, L, Lf, env, s, er, p⟩
  | false => simp only [Bool.false_eq_true, if_false] at p ⊢; exact ⟨F, L, Lf, env, s, er, p⟩
theorem de_if {k : M Bool} (hc : DT G W X c k) (ha : DE G W X a m1) (hb : DE G W X b m2) : DE G W X (.IfExp c a b pos) (ifE k m1 m2) :=
  (pe_ifExp hc ha hb).imp fun σ H Q q => rd_if q
theorem do_ch {k : M Bool} {p1 p2 : Opd} (hc : DT G W X c k) (ha : DO G W X a p1) (hb : DO G W X b p2) (h : p1.isIo = false := by rfl) (h' : p2.isIo = false := by rfl) : DO G W X (.IfExp c a b pos) (.ch k p1 p2) := by
  have ha' : PE X a (rdG G (ROp G false) W (evO p1)) := h ▸ ha
  have hb' : PE X b (rdG G (ROp G false) W (evO p2)) := h' ▸ hb
  refine (pe_ifExp hc ha' hb').imp fun σ H Q q => ?_
  have q' : rdG G (ROp G false) W (ifE k (evO p1) (evO p2)) σ H Q := by
    unfold evO at q
    exact q
  exact rd_if q'
theorem dt_and1 {k : M Bool} (ha : DT G W X a k) : PW X (.BoolOp .And [a] pos) (rdG G RB W k) := pw_and1 ha
theorem dt_or1 {k : M Bool} (ha : DT G W X a k) : PW X (.BoolOp .Or [a] pos) (rdG G RB W k) := pw_or1 ha
theorem dt_and {k l : M Bool} {rest : List Expr} (ha : DT G W X a k) (hb : PW X (.BoolOp .And (b :: rest) pos) (rdG G RB W l)) : PW X (.BoolOp .And (a :: b :: rest) pos) (rdG G RB W (ifE k l (rp false))) :=
  (pw_and ha hb).imp fun σ H Q q => rdG_mono (rd_if q) fun k H1 h => by
    cases k with
    | true => exact h
    | false => rw [if_neg (by decide)] at h ⊢; exact rd_rp h fun F => ⟨rfl, rfl⟩
theorem dt_or {k l : M Bool} {rest : List Expr} (ha : DT G W X a k) (hb : PW X (.BoolOp .Or (b :: rest) pos) (rdG G RB W l)) : PW X (.BoolOp .Or (a :: b :: rest) pos) (rdG G RB W (ifE k (rp true) l)) :=
  (pw_or ha hb).imp fun σ H Q q => rdG_mono (rd_if q) fun k H1 h => by
    cases k with
    | true => rw [if_pos rfl] at h ⊢; exact rd_rp h fun F => ⟨rfl, rfl⟩
    | false => exact h
noncomputable def notM (k : M Bool) : M Bool := rb k fun b => rp (!b)
theorem dt_not {k : M Bool} (ha : DT G W X a k) : DT G W X (.UnaryOp .Not a pos) (notM k) :=
  (pt_not ha).imp fun σ H Q q => rdG_mono (rd_start (R := RB) q) fun k H1 h => rdK_rp (c := !k) h fun F L a r => ⟨r.1, by rw [r.2]⟩
/-- and, or, not as values -/
noncomputable def andE (a b : M T) : M T := ifE (tstB a) b (rp (.bl false))
theorem de_and {rest : List Expr} (ha : DE G W X a m1) (hb : DE G W X (.BoolOp .And (b :: rest) pos) m2) : DE G W X (.BoolOp .And (a :: b :: rest) pos) (andE m1 m2) :=
  (pe_and ha hb).imp fun σ H Q q => rdG_mono (rd_tstB (rd_if q)) fun x H1 ⟨k, e, h⟩ => ⟨k, e, by
    cases k with
    | true => exact h
    | false => rw [if_neg (by decide)] at h ⊢; exact rd_rp h fun F => .bl _⟩
end
end En
set_option maxRecDepth 100000
set_option maxHeartbeats 1000000
namespace En
open PySem PySem.Spec PyProof.Rows L2 Gk
local macro_rules | `(tactic| walk_at "pm") => `(tactic| (simp only [List.perm_iff_count, List.count_append, List.count_cons, List.count_nil] at *; grind))
inductive Rt where
  | nxt (e : Env) | ret (t : T) (e : Env) | brk (e : Env) | cnt (e : Env) | exc (C : Str) (x : T) (e : Env) | bad
noncomputable abbrev Sm := Env → Rt
noncomputable def Kp (J : List Nat) (σ σ' : Sg) : Prop := σ'.length = σ.length ∧ ∀ j ∈ J, σ'[j]? = σ[j]?
theorem Kp.refl {J : List Nat} {σ : Sg} : Kp J σ σ := ⟨rfl, fun _ _ => rfl⟩
theorem Kp.trans {J : List Nat} {σ σ' σ2 : Sg} (h : Kp J σ σ') (h' : Kp J σ' σ2) : Kp J σ σ2 := ⟨h'.1.trans h.1, fun j hj => (h'.2 j hj).trans (h.2 j hj)⟩
theorem Kp.set {J : List Nat} {σ : Sg} {i : Nat} {o : Option V} (h : i ∉ J) : Kp J σ (σ.set i o) := ⟨List.length_set, fun j hj => by
  rw [List.getElem?_set_ne (fun z => h (by rw [z]; exact hj))]⟩
noncomputable def PostS (G : Ct) (W : WX) (J : List Nat) (F : Hp) (Lf : List Cell) (σ : Sg) (D : Ends) : Rt → Prop
  | .nxt e => ∀ σ' H' F' La, Sx H' (La ++ Lf) F' → Same F F' → EnvR G F' La σ' e → Kp J σ σ' → D.nx σ' H'
  | .ret t e => ∀ v σ' H' F' La Lb, Sx H' (La ++ (Lb ++ Lf)) F' → Same F F' → Tr G.K G.cn F' La v t → EnvR G F' Lb σ' e → Kp J σ σ' → D.rt v H'
  | .brk e => ∀ σ' H' F' La, Sx H' (La ++ Lf) F' → Same F F' → EnvR G F' La σ' e → Kp J σ σ' → D.bk σ' H'
  | .cnt e => ∀ σ' H' F' La, Sx H' (La ++ Lf) F' → Same F F' → EnvR G F' La σ' e → Kp J σ σ' → D.ct σ' H'
  | .exc C x e => ∀ v d σ' H' F' La Lb, Sx H' ((d, xdO C v) :: (La ++ (Lb ++ Lf))) F' → Same F F' → Tr G.K G.cn F' La v x → EnvR G F' Lb σ' e → Kp J σ σ' → W (.ref (G.cn C)) (some d) σ' H'
  | .bad => False
noncomputable def rdS (G : Ct) (W : WX) (J : List Nat) (m : Sm) : TS := fun D σ H => ∃ F L Lf env, Sx H (L ++ Lf) F ∧ EnvR G F L σ env ∧ PostS G W J F Lf σ D (m env)
noncomputable abbrev DS (G : Ct) (W : WX) (J : List Nat) (X : Cx) (st : Stmt) (m : Sm) : Prop := PS X st (rdS G W J m)
noncomputable abbrev DSs (G : Ct) (W : WX) (J : List Nat) (X : Cx) (st : List Stmt) (m : Sm) : Prop := PSs X st (rdS G W J m)
theorem _root_.L2.PS.imp {X : Cx} {st : Stmt} {t t' : TS} (h : PS X st t) (i : ∀ D σ H, t' D σ H → t D σ H) : PS X st t' := ⟨fun pins s σ H D I q => h.run pins s σ H D I (i D σ H q)⟩
theorem _root_.L2.PSs.imp {X : Cx} {st : List Stmt} {t t' : TS} (h : PSs X st t) (i : ∀ D σ H, t' D σ H → t D σ H) : PSs X st t' := ⟨fun pins s σ H D I q => h.run pins s σ H D I (i D σ H q)⟩
section
variable {G : Ct} {F F' H H' : Hp} {L L' L1 L0 Lf Mc : List Cell} {W : WX} {J : List Nat} {σ σ' : Sg} {D : Ends} {m : Sm} {env : Env}
theorem PostS.shift {r : Rt} (e : Same F F') (k : Kp J σ σ') (h : PostS G W J F Lf σ D r) : PostS G W J F' Lf σ' D r := by
  cases r with
  | nxt e' => exact fun σ2 H' F2 La s sm er k2 => h σ2 H' F2 La s (same_trans e sm) er (k.trans k2)
  | ret t e' => exact fun v σ2 H' F2 La Lb s sm tr er k2 => h v σ2 H' F2 La Lb s (same_trans e sm) tr er (k.trans k2)
  | brk e' => exact fun σ2 H' F2 La s sm er k2 => h σ2 H' F2 La s (same_trans e sm) er (k.trans k2)
  | cnt e' => exact fun σ2 H' F2 La s sm er k2 => h σ2 H' F2 La s (same_trans e sm) er (k.trans k2)
  | exc C x e' => exact fun v d σ2 H' F2 La Lb s sm tr er k2 => h v d σ2 H' F2 La Lb s (same_trans e sm) tr er (k.trans k2)
  | bad => exact h
end
noncomputable def seqS (a b : Sm) : Sm := fun e => match a e with
  | .nxt e' => b e'
  | r => r
noncomputable def skipS : Sm := fun e => .nxt e
noncomputable def ofE (m : M T) (k : T → Sm) : Sm := fun e => match m e with
  | .ok t e' => k t e'
  | .exc C x e' => .exc C x e'
  | .bad => .bad
noncomputable def exprS (m : M T) : Sm := ofE m fun _ e => .nxt e
noncomputable def retS (m : M T) : Sm := ofE m fun t e => .ret t e
noncomputable def ifS (c : M Bool) (a b : Sm) : Sm := fun e => match c e with
  | .ok k e' => if k = true then a e' else b e'
  | .exc C x e' => .exc C x e'
  | .bad => .bad
noncomputable abbrev Tgt := T → Env → Option Env
noncomputable def asgS (g : Tgt) (m : M T) : Sm := ofE m fun t e => match g t e with
  | some e' => .nxt e'
  | none => .bad
noncomputable def tgN (i : Nat) : Tgt := fun t e => if t.isV = true ∧ i < e.length then some (e.set i t) else none
noncomputable def tgs : List Tgt → List T → Env → Option Env
  | [], [], e => some e
  | g :: gs, t :: ts, e => match g t e with
    | some e' => tgs gs ts e'
    | none => none
  | _, _, _ => none
noncomputable def tgT (gs : List Tgt) : Tgt := fun t e => match t.un with
  | .tup ts => tgs gs ts e
  | _ => none
noncomputable def TgS (G : Ct) (J : List Nat) (g : TG) (f : Tgt) : Prop := ∀ F L1 L Lf t env env' v σ H Q, Sx H (L1 ++ (L ++ Lf)) F → Tr G.K G.cn F L1 v t → EnvR G F L σ env → f t env = some env' →
  (∀ σ' H' F' L', Sx H' (L' ++ Lf) F' → Same F F' → EnvR G F' L' σ' env' → Kp J σ σ' → Q σ' H') → g v σ H Q
noncomputable def TgL (G : Ct) (J : List Nat) (g : TGs) (f : List Tgt) : Prop := ∀ F L1 L Lf ts env env' vs σ H Q, Sx H (L1 ++ (L ++ Lf)) F → TrA G.K G.cn F L1 vs ts → EnvR G F L σ env → tgs f ts env = some env' →
  (∀ σ' H' F' L', Sx H' (L' ++ Lf) F' → Same F F' → EnvR G F' L' σ' env' → Kp J σ σ' → Q σ' H') → g vs σ H Q
section
variable {G : Ct} {W : WX} {J : List Nat} {X : Cx} {st : Stmt} {rest : List Stmt} {a b : Sm} {m : M T} {c : M Bool} {e ce : Expr} {pos : Pos} {i : Nat}
theorem ds_cons (h1 : DS G W J X st a) (h2 : DSs G W J X rest b) : DSs G W J X (st :: rest) (seqS a b) := (pss_cons h1 h2).imp fun D σ H q => by
  obtain ⟨F, L, Lf, env, s, er, p⟩ := q
  refine ⟨F, L, Lf, env, s, er, ?_⟩
  unfold seqS at p
  cases e : a env with
  | nxt e' => rw [e] at p; exact fun σ' H' F' La s' sm er' k => ⟨F', La, Lf, e', s', er', p.shift sm k⟩
  | ret t e' => rw [e] at p; exact p
  | brk e' => rw [e] at p; exact p
  | cnt e' => rw [e] at p; exact p
  | exc C x e' => rw [e] at p; exact p
  | bad => rw [e] at p; exact p
theorem ds_one (h1 : DS G W J X st a) : DSs G W J X [st] a := pss_one h1
theorem rd_skip {D : Ends} {σ : Sg} {H : Hp} (q : rdS G W J skipS D σ H) : tNext D σ H := by
  obtain ⟨F, L, Lf, env, s, er, p⟩ := q
  exact p σ H F L s same_refl er .refl
theorem ds_nil : DSs G W J X [] skipS := pss_nil.imp fun D σ H q => rd_skip q
theorem ds_expr (he : DE G W X e m) (hs : swapsWith e none pos.line X.env = pure false := by rfl) : DS G W J X (.Expr e pos) (exprS m) := (ps_expr he hs).imp fun D σ H q => by
  obtain ⟨F, L, Lf, env, s, er, p⟩ := q
  refine ⟨F, L, Lf, env, s, er, ?_⟩
  unfold exprS ofE at p
  cases e : m env with
  | ok t e' => rw [e] at p; exact fun v H' F' La Lb s' sm r er' => p σ H' F' Lb (s'.right) sm er' .refl
  | exc C x e' => rw [e] at p; exact fun v d H' F' La Lb s' sm r er' => p v d σ H' F' La Lb s' sm r er' .refl
  | bad => rw [e] at p; exact p
theorem ds_ret (he : DE G W X e m) : DS G W J X (.Return (some e) pos) (retS m) := (ps_ret he).imp fun D σ H q => by
  obtain ⟨F, L, Lf, env, s, er, p⟩ := q
  refine ⟨F, L, Lf, env, s, er, ?_⟩
  unfold retS ofE at p
  cases e : m env with
  | ok t e' => rw [e] at p; exact fun v H' F' La Lb s' sm r er' => p v σ H' F' La Lb s' sm r er' .refl
  | exc C x e' => rw [e] at p; exact fun v d H' F' La Lb s' sm r er' => p v d σ H' F' La Lb s' sm r er' .refl
  | bad => rw [e] at p; exact p
theorem ds_if {sa sb : List Stmt} (hc : DT G W X ce c) (ha : DSs G W J X sa a) (hb : DSs G W J X sb b) : DS G W J X (.If ce sa sb pos) (ifS c a b) := (ps_if hc ha hb).imp fun D σ H q => by
  obtain ⟨F, L, Lf, env, s, er, p⟩ := q
  refine ⟨F, L, Lf, env, s, er, ?_⟩
  unfold ifS at p
  cases e : c env with
  | ok k e' =>
    rw [e] at p
    intro k' H' F' La Lb s' sm r er'
    obtain ⟨rfl, rfl⟩ := r
    cases k' with
    | true => exact ⟨F', Lb, Lf, e', s', er', p.shift sm .refl⟩
    | false => exact ⟨F', Lb, Lf, e', s', er', p.shift sm .refl⟩
  | exc C x e' => rw [e] at p; exact fun v d H' F' La Lb s' sm r er' => p v d σ H' F' La Lb s' sm r er' .refl
  | bad => rw [e] at p; exact p
/-- stores to names -/
theorem tg_name (h : i ∉ J) : TgS G J (gName i) (tgN i) := by
  intro F L1 L Lf t env env' v σ H Q s tr er e q
  unfold tgN at e
  split at e
  · rename_i hi
    cases e
    obtain ⟨o, La, Lb, e1, pp, sl, put⟩ := er.get (List.getElem?_eq_getElem hi.2)
    refine q _ H F (L1 ++ Lb) ?_ same_refl (put F (some v) L1 t same_refl (.val tr)) (Kp.set h)
    exact (s.perm (M := La ++ (L1 ++ Lb ++ Lf)) (by walk_at "pm")).right
  · cases e
theorem tgs_nil : TgL G J gNil [] := by
  intro F L1 L Lf ts env env' vs σ H Q s tr er e q
  cases tr with
  | nil => simp [tgs] at e; subst e; exact ⟨rfl, q σ H F L s same_refl er .refl⟩
  | cons => simp [tgs] at e
theorem tgs_cons {g : TG} {f : Tgt} {gs : TGs} {fs : List Tgt} (h : TgS G J g f) (r : TgL G J gs fs) : TgL G J (gCons g gs) (f :: fs) := by
  intro F L1 L Lf ts env env' vs σ H Q s tr er e q
  cases tr with
  | nil => simp [tgs] at e
  | @cons v vs t ts _ La Lb tv tvs pp =>
    simp only [tgs] at e
    cases e1 : f t env with
    | none => rw [e1] at e; cases e
    | some env1 =>
      rw [e1] at e
      refine ⟨v, vs, rfl, h F La L (Lb ++ Lf) t env env1 v σ H _ (s.perm (by walk_at "pm")) tv er e1 fun σ' H' F' L' s' sm er' k => ?_⟩
      exact r F' Lb L' Lf ts env1 env' vs σ' H' Q (s'.perm (by walk_at "pm")) (tvs.mono sm) er' e fun σ2 H2 F2 L2 s2 sm2 er2 k2 => q σ2 H2 F2 L2 s2 (same_trans sm sm2) er2 (k.trans k2)
theorem un_tr {K : PySem.W.Frag} {cn : Str → Addr} {F : Hp} {v : V} : ∀ {t : T} {L : List Cell}, Tr K cn F L v t → Tr K cn F L v t.un
  | .atv _ t, _, h => by cases h with | atv h p => exact (un_tr h).perm p.symm
  | .unb, _, h => h | .non, _, h => h | .bl _, _, h => h | .int _, _, h => h | .str _, _, h => h | .lst _ _, _, h => h | .tup _, _, h => h | .dct _ _ _, _, h => h | .ins _ _ _ _, _, h => h | .sq _, _, h => h | .exn _ _, _, h => h | .ty _, _, h => h | .cls _, _, h => h | .ptr _ _, _, h => h
theorem tgs_len : ∀ {fs : List Tgt} {ts : List T} {env env' : Env}, tgs fs ts env = some env' → ts.length = fs.length
  | [], [], _, _, _ => rfl
  | [], _ :: _, _, _, h => by simp [tgs] at h
  | _ :: _, [], _, _, h => by simp [tgs] at h
  | f :: fs, t :: ts, env, env', h => by
    simp only [tgs] at h
    cases e1 : f t env with
    | none => rw [e1] at h; cases h
    | some env1 => rw [e1] at h; simp [tgs_len h]
theorem tg_tup {n : Nat} {gs : TGs} {fs : List Tgt} (hn : fs.length = n) (r : TgL G J gs fs) : TgS G J (gTup G.K n gs) (tgT fs) := by
  intro F L1 L Lf t env env' v σ H Q s tr er e q
  have tr := un_tr tr
  unfold tgT at e
  cases ht : t.un with
  | tup ts =>
    rw [ht] at tr e
    cases tr with
    | @tup a xs _ _ hs ta =>
      refine ⟨a, xs, rfl, ?_, by rw [ta.len, tgs_len e, hn], r F L1 L Lf ts env env' xs σ H Q s ta er e q⟩
      rcases hs with (h | ⟨o, h⟩) | h
      · exact .inl (.inl (s.sm _ _ h))
      · exact .inl (.inr ⟨o, s.sm _ _ h⟩)
      · exact .inr h
  | _ => rw [ht] at e; cases e
theorem asg_imp {g : TG} {f : Tgt} (hg : TgS G J g f) {D : Ends} {σ : Sg} {H : Hp} (q : rdS G W J (asgS f m) D σ H) : tAsg (rdG G (RV G) W m) g D σ H := by
  obtain ⟨F, L, Lf, env, s, er, p⟩ := q
  refine ⟨F, L, Lf, env, s, er, ?_⟩
  unfold asgS ofE at p
  cases e : m env with
  | ok t e' =>
    rw [e] at p
    dsimp only at p
    intro v H' F' La Lb s' sm r er'
    cases e2 : f t e' with
    | none => rw [e2] at p; exact p.elim
    | some env2 =>
      rw [e2] at p
      exact hg F' La Lb Lf t e' env2 v σ H' _ s' r er' e2 fun σ2 H2 F2 L2 s2 sm2 er2 k2 => p σ2 H2 F2 L2 s2 (same_trans sm sm2) er2 k2
  | exc C x e' => rw [e] at p; exact fun v d H' F' La Lb s' sm r er' => p v d σ H' F' La Lb s' sm r er' .refl
  | bad => rw [e] at p; exact p
theorem ds_asg {g : TG} {f : Tgt} (h : PS X st (tAsg (rdG G (RV G) W m) g)) (hg : TgS G J g f) : DS G W J X st (asgS f m) := h.imp fun D σ H q => asg_imp hg q
end
noncomputable def forS (g : Tgt) (body : Sm) : List T → Sm
  | [] => fun e => .nxt e
  | t :: ts => fun e => match g t e with
    | none => .bad
    | some e1 => match body e1 with
      | .nxt e2 => forS g body ts e2
      | .cnt e2 => forS g body ts e2
      | .brk e2 => .nxt e2
      | r => r
/-- what the iterator J yields, from its i-th turn on -/
noncomputable def ItS (G : Ct) (F : Hp) (J : It) (ts : List T) : Prop :=
  (∀ i H L F', Sx H L F' → Same F F' → i < ts.length → J.go i H ∧ ∀ x H', J.yld i H x H' → ∃ F2, Sx H' L F2 ∧ Same F' F2 ∧ ∀ t, ts[i]? = some t → Tr G.K G.cn F2 [] x t) ∧
  ∀ i H L F', Sx H L F' → Same F F' → i = ts.length → J.stop i H
noncomputable def RI (G : Ct) : RT (List T) It := fun _ F L Jt ts => L = [] ∧ ItS G F Jt ts
noncomputable abbrev rdI (G : Ct) (W : WX) (it : M (List T)) : TI := rdG G (RI G) W it
noncomputable abbrev DI (G : Ct) (W : WX) (X : Cx) (tg iter : Expr) (it : M (List T)) : Prop := PI X tg iter (rdI G W it)
noncomputable def forE (g : Tgt) (it : M (List T)) (body : Sm) : Sm := fun e => match it e with
  | .ok ts e' => forS g body ts e'
  | .exc C x e' => .exc C x e'
  | .bad => .bad
section
variable {G : Ct} {W : WX} {J : List Nat} {X : Cx} {ce tgx iter : Expr} {body : List Stmt} {c : M Bool} {m : Sm} {it : M (List T)} {pos : Pos}
theorem ds_for {g : TG} {f : Tgt} (hp : PassesOwn (model X.prog X.w) X.A X.env X.xe) (hc : X.calm = true) (hi : DI G W X tgx iter it) (hg : PG X tgx g) (tg : TgS G J g f) (hb : DSs G W J X body m) (hs : ∀ v, foldedSetIterable iter X.env v = pure v := by intro _; rfl) :
    DS G W J X (.For tgx iter body [] pos) (forE f it m) := (ps_for hp hc hi hg hb hs).imp fun D σ H q => by
  obtain ⟨F, L, Lf, env, s, er, p⟩ := q
  refine ⟨F, L, Lf, env, s, er, ?_⟩
  unfold forE at p
  cases e : it env with
  | ok ts e1 =>
    rw [e] at p
    intro Jt H1 F1 La1 L1 s1 sm1 r1 er1
    obtain ⟨rfl, its⟩ := r1
    refine ⟨fun i k σ' H' => (k = ts.length - i ∧ i ≤ ts.length) ∧ ∃ F' L' env', Sx H' (L' ++ Lf) F' ∧ Same F1 F' ∧ EnvR G F' L' σ' env' ∧ PostS G W J F' Lf σ' D (forS f m (ts.drop i) env'), ⟨_, ⟨rfl, Nat.zero_le _⟩, F1, L1, e1, s1, same_refl, er1, ?_⟩, ?_⟩
    · rw [List.drop_zero]; exact p.shift sm1 .refl
    · rintro i k σ' H' ⟨⟨rfl, hile⟩, F', L', env', s', sm', er', p'⟩
      by_cases hi : i < ts.length
      · obtain ⟨go, yl⟩ := its.1 i H' _ F' s' sm' hi
        refine .inr ⟨go, fun σ3 H3 => ∃ F3 L3 env3, Sx H3 (L3 ++ Lf) F3 ∧ Same F1 F3 ∧ EnvR G F3 L3 σ3 env3 ∧ PostS G W J F3 Lf σ3 D (forS f m (ts.drop (i + 1)) env3), fun σ3 H3 h3 => ⟨ts.length - (i + 1), by omega, ⟨rfl, by omega⟩, h3⟩, ?_⟩
        intro x H2 hy
        obtain ⟨F2, s2, sm2, tr2⟩ := yl x H2 hy
        have tr2 := tr2 _ (List.getElem?_eq_getElem hi)
        rw [List.drop_eq_getElem_cons hi] at p'
        unfold forS at p'
        cases e2 : f ts[i] env' with
        | none => rw [e2] at p'; exact p'.elim
        | some env2 =>
          rw [e2] at p'
          refine tg F2 [] L' Lf _ env' env2 x σ' H2 _ s2 tr2 (er'.mono sm2) e2 fun σ3 H3 F3 L3 s3 sm3 er3 k3 => ⟨F3, L3, Lf, env2, s3, er3, ?_⟩
          have p3 := PostS.shift (D := D) (same_trans sm2 sm3) k3 p'
          dsimp only at p3
          have sm13 : Same F1 F3 := same_trans sm' (same_trans sm2 sm3)
          cases e3 : m env2 with
          | nxt e4 => rw [e3] at p3; exact fun σ4 H4 F4 L4 s4 sm4 er4 k4 => ⟨F4, L4, e4, s4, same_trans sm13 sm4, er4, PostS.shift sm4 k4 p3⟩
          | cnt e4 => rw [e3] at p3; exact fun σ4 H4 F4 L4 s4 sm4 er4 k4 => ⟨F4, L4, e4, s4, same_trans sm13 sm4, er4, PostS.shift sm4 k4 p3⟩
          | brk e4 => rw [e3] at p3; exact p3
          | ret t e4 => rw [e3] at p3; exact p3
          | exc C x e4 => rw [e3] at p3; exact p3
          | bad => rw [e3] at p3; exact p3
      · refine .inl ⟨its.2 i H' _ F' s' sm' (by omega), ?_⟩
        rw [List.drop_eq_nil_of_le (by omega)] at p'
        exact p' σ' H' F' L' s' same_refl er' .refl
  | exc C x e1 => rw [e] at p; exact fun v d H2 F2 La Lb s2 sm2 r er2 => p v d σ H2 F2 La Lb s2 sm2 r er2 .refl
  | bad => rw [e] at p; exact p
end
noncomputable def ioIx : Nat → List Bool → List Nat
  | _, [] => []
  | k, true :: r => k :: ioIx (k + 1) r
  | k, false :: r => ioIx (k + 1) r
noncomputable def endF (J : List Nat) (e : Env) (f : List T → Fr) : Fr := match takeS J e with
  | some (os, _) => f os
  | none => .bad
noncomputable def mkF (n : Nat) (io : List Bool) (m : Sm) : List T → Fr := fun ts => match m (ts ++ List.replicate (n - ts.length) .unb) with
  | .nxt e => endF (ioIx 0 io) e (.ok .non)
  | .ret t e => endF (ioIx 0 io) e (.ok t)
  | .exc C x e => endF (ioIx 0 io) e (.exc C x)
  | _ => .bad
section
variable {G : Ct} {F H : Hp} {L Lf : List Cell}
theorem env_start {vs : List V} {ts : List T} (tb : TbIn G F) (k : Nat) (h : TrA G.K G.cn F L vs ts) : EnvR G F L (vs.map some ++ List.replicate k none) (ts ++ List.replicate k .unb) := by
  have base : ∀ k, EnvR G F [] (List.replicate k none) (List.replicate k .unb) := fun k => by
    induction k with
    | zero => exact .nil tb
    | succ k ih => exact .cons (.unb _) ih (by simp)
  induction vs generalizing L ts with
  | nil => cases h; exact base k
  | cons v vs ih => cases h with | cons a b p => exact .cons (.val a) (ih b) p
theorem io_pick : ∀ {io : List Bool} {vs : List V} (k : Nat) (σ : Sg), vs.length = io.length → (∀ j v, vs[j]? = some v → σ[k + j]? = some (some v)) → (ioIx k io).map (fun j => σ[j]?) = (pick io vs).map (fun v => some (some v))
  | [], vs, k, σ, h, q => by cases vs <;> rfl
  | b :: r, [], k, σ, h, q => by simp at h
  | true :: r, v :: vs, k, σ, h, q => by
    have e := q 0 v rfl
    simp only [Nat.add_zero] at e
    rw [ioIx, pick, List.map_cons, List.map_cons, e, io_pick (k + 1) σ (by simpa using h) fun j w hw => by have := q (j + 1) w (by simpa using hw); rw [← this]; congr 1; omega]
  | false :: r, v :: vs, k, σ, h, q => by
    rw [ioIx, pick, io_pick (k + 1) σ (by simpa using h) fun j w hw => by have := q (j + 1) w (by simpa using hw); rw [← this]; congr 1; omega]
theorem io_same {J : List Nat} {ws : List V} {σ σ' : Sg} (k : Kp J σ σ') (h : J.map (fun j => σ[j]?) = ws.map (fun v => some (some v))) : J.map (fun j => σ'[j]?) = ws.map (fun v => some (some v)) := by
  rw [← h]; exact List.map_congr_left fun j hj => k.2 j hj
theorem vals_eq {ws us : List V} (h : ws.map (fun v => some (some v)) = us.map (fun v => some (some v))) : ws = us := by
  induction ws generalizing us with
  | nil => cases us with
    | nil => rfl
    | cons => simp at h
  | cons w ws ih => cases us with
    | nil => simp at h
    | cons u us => simp at h; rw [h.1, ih (by simpa using h.2)]
theorem fn_run {N : List Str} {io : List Bool} {m : Sm} {vs : List V} {Q : VK} {E : XK} (h : spE G io (mkF N.length io m) vs H Q E) :
    rdS G (fun c d _ H => E c d H) (ioIx 0 io) m { nx := fun _ H' => Q .non H', rt := Q } (L2.start N vs) H := by
  obtain ⟨F, L, Lf, ts, s, tr, ln, p⟩ := h
  have ll := ln.l
  have lv := tr.len
  have e0 : N.length - ts.length = N.length - vs.length := by omega
  refine ⟨F, L, Lf, ts ++ List.replicate (N.length - ts.length) .unb, s, by rw [e0]; exact env_start ln.t _ tr, ?_⟩
  have hp := io_pick (io := io) (vs := vs) 0 (L2.start N vs) (by omega) (fun j v hv => by
    unfold L2.start
    rw [Nat.zero_add, List.getElem?_append_left (by rw [List.length_map]; exact (List.getElem?_eq_some_iff.mp hv).1), List.getElem?_map, hv]; rfl)
  unfold mkF at p
  have fin : ∀ {e : Env} {f : List T → Fr} {σ' : Sg} {F' : Hp} {Lb : List Cell}, EnvR G F' Lb σ' e → Kp (ioIx 0 io) (L2.start N vs) σ' → (∀ os, f os ≠ .bad) → PostF G F Lf (pick io vs) Q E (endF (ioIx 0 io) e f) →
      ∃ os LJ L0, Lb.Perm (LJ ++ L0) ∧ TrA G.K G.cn F' LJ (pick io vs) os ∧ PostF G F Lf (pick io vs) Q E (f os) := by
    intro e f σ' F' Lb er k nb p
    unfold endF at p
    cases e1 : takeS (ioIx 0 io) e with
    | none => rw [e1] at p; exact p.elim
    | some q =>
      obtain ⟨os, e'⟩ := q
      rw [e1] at p
      obtain ⟨LJ, L0, ws, q1, q2, q3, q4⟩ := er.take e1
      have := vals_eq (q4.symm.trans (io_same k hp))
      subst this
      exact ⟨os, LJ, L0, q1, q3, p⟩
  cases e : m (ts ++ List.replicate (N.length - ts.length) .unb) with
  | nxt e' =>
    rw [e] at p
    intro σ' H' F' La s' sm er k
    obtain ⟨os, LJ, L0, q1, q2, q3⟩ := fin er k (fun _ => by simp) p
    exact q3 .non H' F' [] LJ ((s'.perm (M := L0 ++ (LJ ++ Lf)) (by walk_at "pm")).right) sm .non q2
  | ret t e' =>
    rw [e] at p
    intro v σ' H' F' La Lb s' sm r er k
    obtain ⟨os, LJ, L0, q1, q2, q3⟩ := fin er k (fun _ => by simp) p
    exact q3 v H' F' La LJ ((s'.perm (M := L0 ++ (La ++ (LJ ++ Lf))) (by walk_at "pm")).right) sm r q2
  | exc C x e' =>
    rw [e] at p
    intro v d σ' H' F' La Lb s' sm r er k
    obtain ⟨os, LJ, L0, q1, q2, q3⟩ := fin er k (fun _ => by simp) p
    exact q3 v d H' F' La LJ ((s'.perm (M := L0 ++ ((d, xdO C v) :: (La ++ (LJ ++ Lf)))) (by walk_at "pm")).right) sm r q2
  | brk e' => rw [e] at p; exact p.elim
  | cnt e' => rw [e] at p; exact p.elim
  | bad => rw [e] at p; exact p.elim
theorem spE_len {io : List Bool} {mf : List T → Fr} {vs : List V} {Q : VK} {E : XK} (h : spE G io mf vs H Q E) : vs.length = io.length := by
  obtain ⟨F, L, Lf, ts, s, tr, ln, p⟩ := h
  rw [tr.len, ln.l]
end
end En
set_option maxRecDepth 100000
set_option maxHeartbeats 1000000
namespace En
open PySem PySem.Spec PyProof.Rows L2 Gk
local macro_rules | `(tactic| walk_at "pm") => `(tactic| (simp only [List.perm_iff_count, List.count_append, List.count_cons, List.count_nil] at *; grind))
section
variable {G : Ct} {W : WX} {J : List Nat} {X : Cx} {e o : Expr} {es : List Expr} {x m : Str} {k : Nat} {ps : List Str} {dvs : List V} {sp : Sp} {mf : List T → Fr} {op : Opd} {os : List Opd} {p pos apos : Pos} {C : Addr} {Cn : Str} {io : List Bool}
theorem de_cal (c : CalX X x k ps dvs sp) (rm : Rm k X.A) (tk : Takes X W) (hd : Does G ((op :: os).map Opd.isIo) mf (fun vs H Q E => sp (vs ++ dvs) H Q E)) (ha : DA G W X (e :: es) (op :: os))
    (hg : Gl X x := by rfl) (hdb : (x == ("__debug__" : Str)) = false := by decide) (he : starEach (e :: es) X.env = (false, eval e X.env) :: starEach es X.env := by rfl) (hpl : (backTo pos (starEach es X.env)).any (·.1) = false := by rfl) :
    DE G W X (.Call (.Name x p) (e :: es) [] pos) (callE mf (op :: os)) := (pe_cal c rm tk ha hg hdb he hpl).imp fun σ H Q q =>
  rdG_mono (rd_start (R := RLi G ((op :: os).map Opd.isIo)) q) fun vs H1 q1 => fin_call (B := fun vs H Q E => sp (vs ++ dvs) H Q E) hd q1
/-- built-ins by name -/
theorem de_cb {r : List V → Hp → VK → Prop} {id : String} (hc : CallR X (.builtin id) r) (hd : Does G ((op :: os).map Opd.isIo) mf (fun vs H Q _ => r vs H Q)) (hg : Gl X x) (hm : X.mg x = none) (hv : bootBuiltins x = some (.builtin id)) (ha : DA G W X (e :: es) (op :: os)) (hn : x ≠ "__name__" := by decide) (hdb : (x == ("__debug__" : Str)) = false := by decide)
    (he : starEach (e :: es) X.env = (false, eval e X.env) :: starEach es X.env := by rfl) (hpl : (backTo pos (starEach es X.env)).any (·.1) = false := by rfl) : DE G W X (.Call (.Name x p) (e :: es) [] pos) (callE mf (op :: os)) :=
  (pe_callB hc hg hm hv ha hn hdb he hpl).imp fun σ H Q q => rdG_mono (rd_start (R := RLi G ((op :: os).map Opd.isIo)) q) fun vs H1 q1 => fin_call hd q1
theorem de_ct {r : List V → Hp → VK → Prop} {Ty : String} (hc : CallR X (.type Ty) r) (hd : Does G ((op :: os).map Opd.isIo) mf (fun vs H Q _ => r vs H Q)) (hg : Gl X x) (hm : X.mg x = none) (hv : bootBuiltins x = some (.type Ty)) (ha : DA G W X (e :: es) (op :: os)) (hn : x ≠ "__name__" := by decide) (hdb : (x == ("__debug__" : Str)) = false := by decide)
    (he : starEach (e :: es) X.env = (false, eval e X.env) :: starEach es X.env := by rfl) (hpl : (backTo pos (starEach es X.env)).any (·.1) = false := by rfl) : DE G W X (.Call (.Name x p) (e :: es) [] pos) (callE mf (op :: os)) :=
  (pe_callTy hc hg hm hv ha hn hdb he hpl).imp fun σ H Q q => rdG_mono (rd_start (R := RLi G ((op :: os).map Opd.isIo)) q) fun vs H1 q1 => fin_call hd q1
/-- raise X(e) -/
noncomputable def raiseS (Cn : Str) (m : M T) : Sm := ofE m fun t e => .exc Cn t e
theorem ds_raise {a : Expr} {m : M T} {B fI : Addr} {nb newId initId bq : String} {b cq cn : Str} {tl : List Value} {pos2 : Pos} (hC : G.cn Cn = C) (hc : X.calm = true) (tk : Takes X W) (Tt : Tl nb newId initId tl) (N : NoC X.K X.mg C B fI newId initId bq b cq tl) (hm : X.mg cn = some (.ref C)) (hr : Rm k X.A)
    (hb1 : (b == ("__debug__" : Str)) = false) (hb2 : ¬ b = "self") (hb3 : ¬ b = "found") (he : DE G W X a m) (hfl : fldX Cn = ("found" : Str) := by decide +kernel) (hg : Gl X cn := by rfl) (hdb : (cn == ("__debug__" : Str)) = false := by decide)
    (hs : starEach (a :: []) X.env = (false, eval a X.env) :: starEach [] X.env := by rfl) (hpl : (backTo pos (starEach [] X.env)).any (·.1) = false := by rfl) :
    DS G W J X (.Raise (some (.Call (.Name cn p) [a] [] pos)) none pos2) (raiseS Cn m) := (ps_raiseN hc tk Tt N hm hr hb1 hb2 hb3 (pa_cons he pa_nil hs) hg hdb hs hpl).imp fun D σ H q => by
  subst hC
  obtain ⟨F, L, Lf, env, s, er, q⟩ := q
  refine ⟨F, L, Lf, env, s, er, ?_⟩
  unfold raiseS ofE at q
  cases e : m env with
  | ok t e' =>
    rw [e] at q
    intro v H' F' La Lb s' sm r er'
    exact ⟨v, rfl, fun d hd => q v d σ _ F' La Lb (by have z := s'.new hd (xdO Cn v); unfold xdO at z ⊢; rw [hfl] at z ⊢; exact z) sm r er' .refl⟩
  | exc C x e' => rw [e] at q; exact fun v d H' F' La Lb s' sm r er' => q v d σ H' F' La Lb s' sm r er' .refl
  | bad => rw [e] at q; exact q
end
noncomputable def lim : Nat := 1000000
theorem lim_le : lim ≤ sizeLine := by rw [sizeLine_eq]; decide
noncomputable def lstF' : List T → Fr := fun ts => if ts.length ≤ lim then .ok (.lst true ts) [] else .bad
noncomputable def tupF' : List T → Fr := fun ts => if ts.length ≤ lim then .ok (.tup ts) [] else .bad
section
variable {G : Ct} {W : WX} {X : Cx} {es : List Expr} {os : List Opd} {pos : Pos} {io : List Bool}
theorem pick_nil : ∀ {io : List Bool} {vs : List V}, io.all (!·) = true → pick io vs = []
  | [], vs, _ => by cases vs <;> rfl
  | true :: r, vs, h => by simp at h
  | false :: r, [], h => rfl
  | false :: r, v :: vs, h => by rw [pick]; exact pick_nil (by simpa using h)
theorem does_lst (h : io.all (!·) = true) : Does G io lstF' (fun xs H Q _ => xs.length ≤ sizeLine ∧ ∀ p, H p = none → Q (.ref p) (upd H p (.lst xs))) := by
  rintro vs H Q E ⟨F, L, Lf, ts, s, tr, ln, p⟩
  unfold lstF' at p
  by_cases hl : ts.length ≤ lim
  · rw [if_pos hl, pick_nil h] at p
    refine ⟨by rw [tr.len]; exact Nat.le_trans hl lim_le, fun a ha => ?_⟩
    exact p (.ref a) _ F ((a, .lst vs) :: L) [] (s.new ha _) same_refl (.lstO tr (.refl _)) .nil
  · rw [if_neg hl] at p; exact p.elim
theorem does_tup (h : io.all (!·) = true) : Does G io tupF' (fun xs H Q _ => xs.length ≤ sizeLine ∧ ∀ p, H p = none → Q (.ref p) (upd H p (.tup xs))) := by
  rintro vs H Q E ⟨F, L, Lf, ts, s, tr, ln, p⟩
  unfold tupF' at p
  by_cases hl : ts.length ≤ lim
  · rw [if_pos hl, pick_nil h] at p
    refine ⟨by rw [tr.len]; exact Nat.le_trans hl lim_le, fun a ha => ?_⟩
    have s1 : Sx (upd H a (.tup vs)) ([(a, .tup vs)] ++ (L ++ Lf)) F := s.new ha _
    have sF := s1.addC_same
    exact p (.ref a) _ _ L [] s1.stand sF (.tup (.inl (.inl (s1.addC_mem List.mem_cons_self))) (tr.mono sF)) .nil
  · rw [if_neg hl] at p; exact p.elim
theorem de_lst (ha : DA G W X es os) (h : (os.map Opd.isIo).all (!·) = true) : DE G W X (.List es pos) (callE lstF' os) := (pe_lst ha).imp fun σ H Q q =>
  rdG_mono (rd_start (R := RLi G (os.map Opd.isIo)) q) fun vs H1 q1 => fin_call (does_lst h) q1
theorem de_tup {x1 : Nat} (ha : DA G W X es os) (h : (os.map Opd.isIo).all (!·) = true) : DE G W X (.Tuple es x1 pos) (callE tupF' os) := (pe_tup ha).imp fun σ H Q q =>
  rdG_mono (rd_start (R := RLi G (os.map Opd.isIo)) q) fun vs H1 q1 => fin_call (does_tup h) q1
end
noncomputable def unbS : List Nat → Env → Env
  | [], e => e
  | i :: r, e => (unbS r e).set i .unb
noncomputable def lcL (vs : List Nat) (g : Tgt) (c : M Bool) (el : M T) : List T → List T → M T
  | [], acc => fun e => .ok (.lst true acc) e
  | t :: ts, acc => fun e => match g t e with
    | none => .bad
    | some e1 => match c e1 with
      | .ok k e2 => if k = true then (match el e2 with
        | .ok y e3 => if acc.length < lim then lcL vs g c el ts (acc ++ [y]) (unbS vs e3) else .bad
        | _ => .bad) else lcL vs g c el ts acc (unbS vs e2)
      | _ => .bad
noncomputable def lcE (vs : List Nat) (g : Tgt) (it : M (List T)) (c : M Bool) (el : M T) : M T := fun e => match it e with
  | .ok ts e1 => lcL vs g c el ts [] (unbS vs e1)
  | .exc C x e1 => .exc C x e1
  | .bad => .bad
section
variable {G : Ct} {F F' H : Hp} {L Lf : List Cell} {σ : Sg} {env : Env}
theorem EnvR.unb {vs : List Nat} (er : EnvR G F L σ env) : ∃ L' D, L.Perm (L' ++ D) ∧ EnvR G F L' (wipe σ vs) (unbS vs env) := by
  induction vs with
  | nil => exact ⟨L, [], by simp, er⟩
  | cons i r ih =>
    obtain ⟨L', D, p, er'⟩ := ih
    unfold wipe unbS
    cases h : (unbS r env)[i]? with
    | none =>
      have hi : (unbS r env).length ≤ i := List.getElem?_eq_none_iff.mp h
      rw [List.set_eq_of_length_le hi, List.set_eq_of_length_le (by rw [er'.len]; exact hi)]
      exact ⟨L', D, p, er'⟩
    | some t =>
      obtain ⟨o, La, Lb, e1, pp, sl, put⟩ := er'.get h
      exact ⟨Lb, La ++ D, by walk_at "pm", put F none [] .unb same_refl (.unb _)⟩
theorem unbS_get : ∀ {vs : List Nat} {env : Env} {i : Nat}, i ∈ vs → ∀ {t : T}, (unbS vs env)[i]? = some t → t = .unb
  | v :: vs, env, i, h, t, e => by
    unfold unbS at e
    by_cases hi : v = i
    · subst hi
      by_cases hl : v < (unbS vs env).length
      · rw [List.getElem?_set_self hl] at e; cases e; rfl
      · rw [List.getElem?_eq_none (by simpa using hl)] at e; cases e
    · rw [List.getElem?_set_ne hi] at e
      exact unbS_get (by rcases List.mem_cons.mp h with z | z; exact absurd z.symm hi; exact z) e
/-- unknown names may have any value -/
theorem EnvR.any : ∀ {L : List Cell} {σ σ' : Sg} {env : Env}, EnvR G F L σ env → σ.length = σ'.length → (∀ i : Nat, env[i]? = some .unb ∨ σ[i]? = σ'[i]?) → EnvR G F L σ' env
  | _, _, [], _, .nil t, _, _ => .nil t
  | _, _, _ :: _, _, .nil _, h, _ => by simp at h
  | _, _, [], _, .cons _ _ _, h, _ => by simp at h
  | _, o :: σ, o' :: σ', t :: env, .cons a b p, h, q => by
    refine .cons ?_ (EnvR.any b (by simpa using h) fun i => by simpa using q (i + 1)) p
    rcases q 0 with z | z
    · simp at z; subst z
      cases a with
      | unb => exact .unb _
      | val tr => cases tr
    · simp at z; subst z; exact a
theorem wipe_get {vs : List Nat} {i : Nat} (h : i ∉ vs) : (wipe σ vs)[i]? = σ[i]? := by
  induction vs with
  | nil => rfl
  | cons v vs ih =>
    simp only [List.mem_cons, not_or] at h
    unfold wipe
    rw [List.getElem?_set_ne (fun z => h.1 z.symm)]; exact ih h.2
theorem EnvR.unwipe {vs : List Nat} (er : EnvR G F L (wipe σ vs) env) (hu : ∀ i ∈ vs, ∀ t, env[i]? = some t → t = .unb) : EnvR G F L σ env := by
  refine er.any (wipe_length σ vs) fun i => ?_
  by_cases h : i ∈ vs
  · cases e : env[i]? with
    | none =>
      refine .inr ?_
      have hi := List.getElem?_eq_none_iff.mp e
      rw [List.getElem?_eq_none (by rw [er.len]; exact hi), List.getElem?_eq_none (by rw [← wipe_length σ vs, er.len]; exact hi)]
    | some t => rw [hu i h t e]; exact .inl rfl
  · exact .inr (wipe_get h)
end
theorem wipe_at (vs : List Nat) (τ : Sg) (i : Nat) : (wipe τ vs)[i]? = if i ∈ vs then (if i < τ.length then some none else none) else τ[i]? := by
  by_cases h : i ∈ vs
  · rw [if_pos h]
    induction vs with
    | nil => cases h
    | cons v vs ih =>
      unfold wipe
      by_cases hv : v = i
      · subst hv
        by_cases hl : v < τ.length
        · rw [if_pos hl, List.getElem?_set_self (by rw [wipe_length]; exact hl)]
        · rw [if_neg hl, List.getElem?_eq_none (by rw [List.length_set, wipe_length]; omega)]
      · rw [List.getElem?_set_ne hv]
        exact ih (by rcases List.mem_cons.mp h with z | z; exact absurd z.symm hv; exact z)
  · rw [if_neg h, wipe_get h]
theorem wipe_wipe {vs : List Nat} {σ : Sg} : wipe (wipe σ vs) vs = wipe σ vs := List.ext_getElem? fun i => by
  rw [wipe_at, wipe_at, wipe_length]
  by_cases h : i ∈ vs
  · rw [if_pos h, if_pos h]
  · rw [if_neg h]
    try (rw [if_neg h])
theorem wipe_eq {vs J : List Nat} {σ σ' : Sg} (hj : ∀ i, i < σ.length → i ∉ vs → i ∈ J) (k : Kp J σ σ') : wipe σ' vs = wipe σ vs := by
  refine List.ext_getElem? fun i => ?_
  rw [wipe_at, wipe_at, k.1]
  by_cases h : i ∈ vs
  · rw [if_pos h, if_pos h]
  · rw [if_neg h, if_neg h]
    by_cases hi : i < σ.length
    · exact k.2 i (hj i hi h)
    · rw [List.getElem?_eq_none (by have := k.1; omega), List.getElem?_eq_none (by omega)]
theorem TrA.app {K : PySem.W.Frag} {cn : Str → Addr} {F : Hp} {ws : List V} {us : List T} {M : List Cell} (h : TrA K cn F M ws us) : ∀ {vs : List V} {ts : List T} {L : List Cell}, TrA K cn F L vs ts → TrA K cn F (L ++ M) (vs ++ ws) (ts ++ us)
  | _, _, _, .nil => h
  | _, _, _, .cons a b p => .cons a (TrA.app h b) (by walk_at "pm")
theorem TrA.snoc {K : PySem.W.Frag} {cn : Str → Addr} {F : Hp} {L M : List Cell} {vs : List V} {ts : List T} {v : V} {t : T} (h : TrA K cn F L vs ts) (h1 : Tr K cn F M v t) : TrA K cn F (L ++ M) (vs ++ [v]) (ts ++ [t]) := TrA.app (.cons h1 .nil (by simp)) h
section
variable {G : Ct} {W : WX} {X : Cx}
theorem lc_imp {W0 : WX} {wi : TI} {g : TG} {f : Tgt} {tt : TT} {te : TE} {vs J : List Nat} {it : M (List T)} {c : M Bool} {el : M T} {n : Nat} {σ : Sg} {H : Hp} {Q : VK}
    (hi : ∀ σ H R, rdI G W it σ H R → wi σ H R) (tg : TgS G J g f) (hc : ∀ σ H Q, rdG G RB W0 c σ H Q → tt σ H Q) (he : ∀ σ H Q, rdG G (RV G) W0 el σ H Q → te σ H Q) (hn : ∀ i, i < n → i ∉ vs → i ∈ J) (hσ : σ.length = n)
    (q : rdG G (RV G) W (lcE vs f it c el) σ H Q) : tLc wi g tt te vs σ H Q := by
  refine hi _ _ _ ?_
  obtain ⟨F, L, Lf, env, s, er, p⟩ := q
  refine ⟨F, L, Lf, env, s, er, ?_⟩
  unfold lcE at p
  cases e : it env with
  | ok ts e1 =>
    rw [e] at p
    intro Jt H1 F1 La1 L1 s1 sm1 r1 er1
    obtain ⟨rfl, its⟩ := r1
    have p1 : PostG G (RV G) W F1 Lf σ Q (lcL vs f c el ts [] (unbS vs e1)) := p.mono sm1
    intro D hD
    obtain ⟨L2, Dd, pp, er2⟩ := er1.unb (vs := vs)
    have s2 : Sx (upd H1 D (.lst [])) ((D, .lst []) :: (L2 ++ Lf)) F1 := by
      have z := s1.new hD (.lst [])
      exact (z.perm (M := Dd ++ ((D, .lst []) :: (L2 ++ Lf))) (by walk_at "pm")).right
    refine ⟨fun i k H' => (k = ts.length - i ∧ i ≤ ts.length) ∧ ∃ F' La L' env' acc xs, Sx H' ((D, .lst xs) :: (La ++ (L' ++ Lf))) F' ∧ Same F1 F' ∧ TrA G.K G.cn F' La xs acc ∧ EnvR G F' L' (wipe σ vs) env' ∧ (∀ i ∈ vs, ∀ t, env'[i]? = some t → t = .unb) ∧ PostG G (RV G) W F' Lf σ Q (lcL vs f c el (ts.drop i) acc env'),
      ⟨_, ⟨rfl, Nat.zero_le _⟩, F1, [], L2, unbS vs e1, [], [], s2, same_refl, .nil, er2, fun i hi t ht => unbS_get hi ht, by rw [List.drop_zero]; exact p1⟩, ?_⟩
    rintro i k H' ⟨⟨rfl, hile⟩, F', La, L', env', acc, xs, s', sm', ta, er', hu, p'⟩
    by_cases hi : i < ts.length
    · obtain ⟨go, yl⟩ := its.1 i H' _ F' s' sm' hi
      refine .inr ⟨go, fun H' => ∃ F' La L' env' acc xs, Sx H' ((D, .lst xs) :: (La ++ (L' ++ Lf))) F' ∧ Same F1 F' ∧ TrA G.K G.cn F' La xs acc ∧ EnvR G F' L' (wipe σ vs) env' ∧ (∀ i ∈ vs, ∀ t, env'[i]? = some t → t = .unb) ∧ PostG G (RV G) W F' Lf σ Q (lcL vs f c el (ts.drop (i + 1)) acc env'),
        fun H3 h3 => ⟨ts.length - (i + 1), by omega, ⟨rfl, by omega⟩, h3⟩, ?_⟩
      intro x H2 hy
      obtain ⟨F2, s2, sm2, tr2⟩ := yl x H2 hy
      have tr2 := tr2 _ (List.getElem?_eq_getElem hi)
      rw [List.drop_eq_getElem_cons hi] at p'
      unfold lcL at p'
      cases e2 : f ts[i] env' with
      | none => rw [e2] at p'; exact p'.elim
      | some env2 =>
        rw [e2] at p'
        dsimp only at p'
        refine tg F2 [] L' ((D, .lst xs) :: (La ++ Lf)) _ env' env2 x (wipe σ vs) H2 _ (s2.perm (by walk_at "pm")) tr2 (er'.mono sm2) e2 fun σ3 H3 F3 L3 s3 sm3 er3 k3 => ?_
        have we : wipe σ3 vs = wipe σ vs := (wipe_eq (J := J) (σ := wipe σ vs) (fun i hi => hn i (by rw [wipe_length, hσ] at hi; exact hi)) k3).trans wipe_wipe
        refine ⟨we, hc _ _ _ ⟨F3, L3, (D, .lst xs) :: (La ++ Lf), env2, s3, er3, ?_⟩⟩
        have sm13 : Same F1 F3 := same_trans sm' (same_trans sm2 sm3)
        cases e3 : c env2 with
        | bad => rw [e3] at p'; exact p'.elim
        | exc C x e4 => rw [e3] at p'; exact p'.elim
        | ok k e4 =>
          rw [e3] at p'
          dsimp only at p'
          intro b H4 F4 La4 Lb4 s4 sm4 r4 er4
          obtain ⟨rfl, rfl⟩ := r4
          have sm14 : Same F1 F4 := same_trans sm13 sm4
          cases b with
          | false =>
            simp only [Bool.false_eq_true, if_false] at p' ⊢
            obtain ⟨L5, D5, pp5, er5⟩ := er4.unb (vs := vs)
            rw [we] at er5
            refine ⟨F4, La, L5, unbS vs e4, acc, xs, ?_, sm14, ta.mono (same_trans sm2 (same_trans sm3 sm4)), er5, fun i hi t ht => unbS_get hi ht, p'.mono (same_trans sm2 (same_trans sm3 sm4))⟩
            exact (s4.perm (M := D5 ++ ((D, .lst xs) :: (La ++ (L5 ++ Lf)))) (by walk_at "pm")).right
          | true =>
            simp only [if_true] at p' ⊢
            refine he _ _ _ ⟨F4, Lb4, (D, .lst xs) :: (La ++ Lf), e4, s4, er4, ?_⟩
            cases e5 : el e4 with
            | bad => rw [e5] at p'; exact p'.elim
            | exc C x e6 => rw [e5] at p'; exact p'.elim
            | ok y e6 =>
              rw [e5] at p'
              dsimp only at p'
              intro v H5 F5 La5 Lb5 s5 sm5 r5 er5
              have sm25 : Same F' F5 := same_trans sm2 (same_trans sm3 (same_trans sm4 sm5))
              by_cases hl : acc.length < lim
              · rw [if_pos hl] at p'
                obtain ⟨L6, D6, pp6, er6⟩ := er5.unb (vs := vs)
                rw [we] at er6
                have s6 : Sx H5 ((D, .lst xs) :: (La5 ++ (La ++ (L6 ++ Lf)))) F5 := (s5.perm (M := D6 ++ ((D, .lst xs) :: (La5 ++ (La ++ (L6 ++ Lf))))) (by walk_at "pm")).right
                refine ⟨xs, s6.cell, by rw [ta.len]; exact Nat.lt_of_lt_of_le hl lim_le, F5, La ++ La5, L6, unbS vs e6, acc ++ [y], xs ++ [v], ?_, same_trans sm14 sm5, (ta.mono sm25).snoc r5, er6, fun i hi t ht => unbS_get hi ht, p'.mono sm25⟩
                exact (s6.put _).perm (by walk_at "pm")
              · rw [if_neg hl] at p'; exact p'.elim
    · refine .inl ⟨its.2 i H' _ F' s' sm' (by omega), ?_⟩
      rw [List.drop_eq_nil_of_le (by omega)] at p'
      exact p' (.ref D) H' F' ((D, .lst xs) :: La) L' s' same_refl (.lstO ta (.refl _)) (er'.unwipe hu)
  | exc C x e1 => rw [e] at p; exact p
  | bad => rw [e] at p; exact p
end
end En
set_option maxRecDepth 100000
set_option maxHeartbeats 1000000
namespace En
open PySem PySem.Spec PyProof.Rows L2 Gk
local macro_rules | `(tactic| walk_at "pm") => `(tactic| (simp only [List.perm_iff_count, List.count_append, List.count_cons, List.count_nil] at *; grind))
theorem _root_.L2.PE.impL {X : Cx} {e : Expr} {t t' : TE} (h : PE X e t) (i : ∀ (σ : Sg) H Q, σ.length = X.N.length → t' σ H Q → t σ H Q) : PE X e t' := ⟨fun pins s σ H Q I q => h.run pins s σ H Q I (i σ H Q I.len q)⟩
theorem _root_.L2.PS.impL {X : Cx} {st : Stmt} {t t' : TS} (h : PS X st t) (i : ∀ D (σ : Sg) H, σ.length = X.N.length → t' D σ H → t D σ H) : PS X st t' := ⟨fun pins s σ H D I q => h.run pins s σ H D I (i D σ H I.len q)⟩
theorem _root_.L2.PI.imp {X : Cx} {tg l : Expr} {t t' : TI} (h : PI X tg l t) (i : ∀ σ H R, t' σ H R → t σ H R) : PI X tg l t' := ⟨fun pins s σ H R I q => h.run pins s σ H R I (i σ H R q)⟩
theorem _root_.L2.PTs.imp {X : Cx} {l : List Expr} {t t' : TT} (h : PTs X l t) (i : ∀ σ H R, t' σ H R → t σ H R) : PTs X l t' := ⟨fun pins s σ H R I q => h.run pins s σ H R I (i σ H R q)⟩
section
variable {K : PySem.W.Frag} {cn : Str → Addr} {F H : Hp} {L Lf : List Cell} {v : V} {t : T} {ts : List T} {o : Bool}
/-- trees by their heads -/
theorem Sx.seqT {a : Addr} {xs : List V} (s : Sx H L F) (h : SqT K F a xs) : SqT K H a xs := by
  rcases h with (h | ⟨o, h⟩) | h
  · exact .inl (.inl (s.sm _ _ h))
  · exact .inl (.inr ⟨o, s.sm _ _ h⟩)
  · exact .inr h
theorem Tr.lst (h : Tr K cn F L v (.lst o ts)) (s : Sx H (L ++ Lf) F) : ∃ a xs D L', v = .ref a ∧ H a = some (.lst xs) ∧ TrA K cn F L' xs ts ∧ L.Perm (D ++ L') := by
  cases h with
  | @lstF a xs _ e ta => exact ⟨a, xs, [], [], rfl, s.sm _ _ e, ta, by simp⟩
  | @lstO a xs _ L' _ ta p => exact ⟨a, xs, [(a, .lst xs)], L', rfl, (s.ce (a, .lst xs) (List.mem_append_left _ (p.mem_iff.mpr List.mem_cons_self))).1, ta, p⟩
theorem Tr.tupI (h : Tr K cn F L v (.tup ts)) (s : Sx H (L ++ Lf) F) : ∃ a xs, v = .ref a ∧ SqT K H a xs ∧ TrA K cn F L xs ts := by
  cases h with
  | @tup a xs _ _ e ta => exact ⟨a, xs, rfl, s.seqT e, ta⟩
theorem Tr.dctI {ks : List Ky} (h : Tr K cn F L v (.dct o ks ts)) (s : Sx H (L ++ Lf) F) : ∃ a kvs D L', v = .ref a ∧ Rd H a (.dK kvs) ∧ kvs.map (·.1) = ks.map kyK ∧ TrA K cn F L' (kvs.map (·.2)) ts ∧ L.Perm (D ++ L') := by
  cases h with
  | @dctF a kvs _ _ e hk ta => exact ⟨a, kvs, [], [], rfl, e.elim (fun q => .inl (s.sm _ _ q)) (fun q => .inr (q.elim fun o q => ⟨o, s.sm _ _ q⟩)), hk, ta, by simp⟩
  | @dctO a kvs _ _ L' _ hk ta p => exact ⟨a, kvs, [(a, .dK kvs)], L', rfl, .inl (s.ce (a, .dK kvs) (List.mem_append_left _ (p.mem_iff.mpr List.mem_cons_self))).1, hk, ta, p⟩
theorem Tr.intI {i : Int} (h : Tr K cn F L v (.int i)) : v = .int i := by cases h; rfl
theorem Tr.strI {i : List Nat} (h : Tr K cn F L v (.str i)) : v = vt i := by cases h; rfl
theorem Tr.blI {i : Bool} (h : Tr K cn F L v (.bl i)) : v = .bl i := by cases h; rfl
theorem Tr.nonI (h : Tr K cn F L v .non) : v = .non := by cases h; rfl
theorem TrA.get {vs : List V} (h : TrA K cn F L vs ts) : ∀ {i : Nat}, ts[i]? = some t → ∃ v L1 L2, vs[i]? = some v ∧ Tr K cn F L1 v t ∧ L.Perm (L1 ++ L2) := by
  intro i
  induction i generalizing L vs ts with
  | zero =>
    intro e
    cases h with
    | nil => simp at e
    | @cons v vs t ts L L1 L2 a b p => simp at e; subst e; exact ⟨v, L1, L2, rfl, a, p⟩
  | succ i ih =>
    intro e
    cases h with
    | nil => simp at e
    | @cons v vs t ts L L1 L2 a b p =>
      obtain ⟨w, M1, M2, e1, tr, p2⟩ := ih b (by simpa using e)
      exact ⟨w, M1, L1 ++ M2, by simpa using e1, tr, by walk_at "pm"⟩
end
theorem TrA.of_ints {K : PySem.W.Frag} {cn : Str → Addr} {F : Hp} : ∀ {ns : List Int}, TrA K cn F [] (ns.map .int) (ns.map .int)
  | [] => .nil
  | n :: _ => .cons (.int n) TrA.of_ints (by simp)
noncomputable def T.items (t : T) : Option (List T) := match t.un with
  | .lst _ ts => some ts
  | .tup ts => some ts
  | .str s => some (s.map fun c => .str [c])
  | .sq ns => some (ns.map .int)
  | _ => none
noncomputable def itE (m : M T) : M (List T) := rb m fun t => match t.frz.items with
  | some ts => rp ts
  | none => fun _ => .bad
noncomputable def rngT1 : List T → Option (List T)
  | [.int n] => if n < 2 ^ 62 ∧ -(2 ^ 62) ≤ n then some ((List.range n.toNat).map fun i : Nat => .int i) else none
  | _ => none
/-- the values of plain operands -/
noncomputable def valsM {α : Type} (os : List Opd) (k : List T → M α) : M α := rb (evA os) fun as => fun e => match asm e as [] with
  | some ts => k ((T.frzA ts).map T.un) (frzS (bos as) e)
  | none => .bad
noncomputable def optM {α : Type} : Option α → M α
  | some a => rp a
  | none => fun _ => .bad
noncomputable def rngE1 (os : List Opd) : M (List T) := valsM os fun ts => optM (rngT1 ts)
noncomputable def zipT : List T → Option (List T)
  | [.lst _ us, .lst _ ws] => some ((us.zip ws).map fun p => .tup [p.1, p.2])
  | _ => none
noncomputable def zipE (os : List Opd) : M (List T) := valsM os fun ts => optM (zipT ts)
theorem TrA.un {K : PySem.W.Frag} {cn : Str → Addr} {F : Hp} : ∀ {L : List Cell} {vs : List V} {ts : List T}, TrA K cn F L vs ts → TrA K cn F L vs (ts.map T.un)
  | _, _, _, .nil => .nil
  | _, _, _, .cons a b p => .cons (un_tr a) (TrA.un b) p
theorem vals_fin {γ δ : Type} {G : Ct} {W : WX} {σ : Sg} {H : Hp} {vs : List V} {R' : RT γ δ} {Q : δ → Hp → Prop} {io : List Bool} {k : List T → M γ}
    (h : rdK G (RLi G io) vs R' W (fun as => fun e => match asm e as [] with | some ts => k ((T.frzA ts).map T.un) (frzS (bos as) e) | none => .bad) σ H Q) (h0 : io.all (!·) = true) :
    ∃ F L Lf env ts, Sx H (L ++ Lf) F ∧ TrA G.K G.cn F [] vs ts ∧ EnvR G F L σ env ∧ PostG G R' W F Lf σ Q (k ts env) := by
  obtain ⟨F, L1, L, Lf, env, as, s, r, er, p⟩ := h
  dsimp only at p
  cases ea : asm env as [] with
  | none => rw [ea] at p; exact p.elim
  | some ts =>
    rw [ea] at p
    have no : ios as = [] := by
      have r2 := r.2
      rw [← r2] at h0
      clear r2 p ea r
      induction as with
      | nil => rfl
      | cons a as ih =>
        cases a with
        | io i => simp [AT.isIo] at h0
        | _ => simp only [List.map_cons, List.all_cons, Bool.and_eq_true] at h0; exact ih h0.2
    have s1 : Sx H (L ++ (L1 ++ Lf)) F := s.perm (by walk_at "pm")
    obtain ⟨Bc, L', p2, mt, view⟩ := er.split (I := bos as) s1
    have s2 : Sx H (Bc ++ (L' ++ (L1 ++ Lf))) F := s1.perm (by walk_at "pm")
    have er1 := view _ s2.addC_same fun c hc => s2.addC_mem hc
    have lk : ∀ {as : List AT} {e : Env} {js : List T}, ios as = [] → asm (frzS (bos as) e) as js = asm (frzS (bos as) e) as js := fun _ => rfl
    have sub : asm (frzS (bos as) env) as [] = some ts := by
      have key : ∀ (I : List Nat) (as : List AT) (js ts : List T), ios as = [] → (∀ i ∈ bos as, i ∈ I) → asm env as js = some ts → asm (frzS I env) as js = some ts := by
        intro I as
        induction as with
        | nil => intro js ts _ _ h; exact h
        | cons a as ih =>
          intro js ts hn hI h
          cases a with
          | t x =>
            simp only [asm, Option.map_eq_some_iff] at h ⊢
            obtain ⟨ts', h, rfl⟩ := h
            exact ⟨ts', ih js ts' hn hI h, rfl⟩
          | o x =>
            simp only [asm, Option.map_eq_some_iff] at h ⊢
            obtain ⟨ts', h, rfl⟩ := h
            exact ⟨ts', ih js ts' hn hI h, rfl⟩
          | s i =>
            simp only [asm] at h ⊢
            cases ht : env[i]? with
            | none => rw [ht] at h; cases h
            | some t =>
              rw [ht] at h
              rw [(frzS_get ht).1 (hI i List.mem_cons_self)]
              by_cases hv : t.isV = true
              · simp only [hv, if_true, Option.map_eq_some_iff] at h
                obtain ⟨ts', h, rfl⟩ := h
                simp only [frz_isV, hv, if_true, Option.map_eq_some_iff]
                exact ⟨ts', ih js ts' hn (fun i hi => hI i (List.mem_cons_of_mem _ hi)) h, by rw [frz_frz]⟩
              · simp only [if_neg hv] at h; cases h
          | io i => simp [ios] at hn
      exact key _ _ _ _ no (fun _ h => h) ea
    obtain ⟨⟨D, L2, q1, q2⟩, q3, q4⟩ := asm_ok (LJ := []) (ws := []) (js := []) (I := bos as) (env := env) (r.1.mn s2.addC_same) er1 (fun _ h => h) .nil (by rw [no]; rfl) ea
    have s3 := s2.stand
    have s4 : Sx H (L2 ++ (L' ++ Lf)) (addC F Bc) := (s3.perm (M := D ++ (L2 ++ (L' ++ Lf))) (by walk_at "pm")).right
    have sF := s4.addC_same
    exact ⟨_, L', Lf, _, _, s4.stand, TrA.un ((q2.mono sF).frz fun c hc => s4.addC_mem hc), er1.mono sF, p.mono (same_trans s2.addC_same sF)⟩
section
variable {G : Ct} {W : WX} {J : List Nat} {X : Cx} {tgx iter e : Expr} {es : List Expr} {m : M T} {os : List Opd}
theorem ItS.same {F : Hp} {J : It} {ts : List T} (h1 : ∀ i H L F', Sx H L F' → Same F F' → i < ts.length → J.go i H ∧ ∀ x H', J.yld i H x H' → H' = H ∧ ∀ t, ts[i]? = some t → Tr G.K G.cn F' [] x t) (h2 : ∀ i H L F', Sx H L F' → Same F F' → ts.length ≤ i → J.stop i H) : ItS G F J ts :=
  ⟨fun i H L F' s sm hi => ⟨(h1 i H L F' s sm hi).1, fun x H' hy => by
    obtain ⟨rfl, h⟩ := (h1 i H L F' s sm hi).2 x H' hy
    exact ⟨F', s, same_refl, h⟩⟩, fun i H L F' s sm hi => h2 i H L F' s sm (Nat.le_of_eq hi.symm)⟩
theorem its_list {F : Hp} {a : Addr} {xs : List V} {ts : List T} (h : ∀ F', Same F F' → SqL G.K F' a xs) (ta : TrA G.K G.cn F [] xs ts) : ItS G F (Itl G.K a) ts := by
  have key : ∀ {H L F'}, Sx H L F' → Same F F' → SqL G.K H a xs := fun s sm => by
    rcases h _ sm with (q | ⟨o, q⟩) | q
    · exact .inl (.inl (s.sm _ _ q))
    · exact .inl (.inr ⟨o, s.sm _ _ q⟩)
    · exact .inr q
  refine .same (fun i H L F' s sm hi => ?_) fun i H L F' s sm hi => ⟨xs, key s sm, by rw [ta.len]; exact hi⟩
  obtain ⟨v, L1, L2, e1, tr, p⟩ := ta.get (List.getElem?_eq_getElem hi)
  refine ⟨⟨xs, v, key s sm, e1⟩, fun x H' hy => ⟨hy.1, fun t ht => ?_⟩⟩
  have := hy.2 xs (key s sm)
  rw [e1] at this; cases this
  rw [List.getElem?_eq_getElem hi] at ht; cases ht
  have : L1 = [] := (List.append_eq_nil_iff.mp (List.nil_perm.mp p)).1
  subst this
  exact tr.mono sm
theorem its_tup {F : Hp} {a : Addr} {xs : List V} {ts : List T} (h : ∀ F', Same F F' → SqT G.K F' a xs) (ta : TrA G.K G.cn F [] xs ts) : ItS G F (Itt G.K a) ts := by
  refine .same (fun i H L F' s sm hi => ?_) fun i H L F' s sm hi => ⟨xs, s.seqT (h _ sm), by rw [ta.len]; exact hi⟩
  obtain ⟨v, L1, L2, e1, tr, p⟩ := ta.get (List.getElem?_eq_getElem hi)
  refine ⟨⟨xs, v, s.seqT (h _ sm), e1⟩, fun x H' hy => ⟨hy.1, fun t ht => ?_⟩⟩
  have := hy.2 xs (s.seqT (h _ sm))
  rw [e1] at this; cases this
  rw [List.getElem?_eq_getElem hi] at ht; cases ht
  have : L1 = [] := (List.append_eq_nil_iff.mp (List.nil_perm.mp p)).1
  subst this
  exact tr.mono sm
theorem its_str {F : Hp} {s : List Nat} : ItS G F (Its (tx s)) (s.map fun c => .str [c]) := by
  refine .same (fun i H L F' sx sm hi => ?_) fun i H L F' sx sm hi => by simpa [Its] using hi
  rw [List.length_map] at hi
  refine ⟨by simpa [Its] using hi, fun x H' hy => ?_⟩
  obtain ⟨rfl, c, hc, rfl⟩ := hy
  refine ⟨rfl, fun t ht => ?_⟩
  have : s[i]? = some c := by simpa using hc
  rw [List.getElem?_map, this] at ht; cases ht
  exact .str [c]
theorem its_rng {F : Hp} {lo : Int} {n : Nat} : ItS G F (Itr lo n) ((List.range n).map fun i : Nat => .int (lo + i)) := by
  refine .same (fun i H L F' sx sm hi => ?_) fun i H L F' sx sm hi => by simpa [Itr] using hi
  rw [List.length_map, List.length_range] at hi
  refine ⟨hi, fun x H' hy => ⟨hy.1, fun t ht => ?_⟩⟩
  obtain ⟨_, rfl⟩ := hy
  rw [List.getElem?_map, List.getElem?_range hi] at ht; cases ht
  exact .int _
theorem di_val (h : DE G W X e m) (hK : X.K = G.K) : DI G W X tgx e (itE m) := (pi_k (K := G.K) hK (pi_g h)).imp fun σ H R q => by
  obtain ⟨F, L, Lf, env, s, er, p⟩ := q
  unfold itE rb at p
  cases em : m env with
  | bad => rw [em] at p; exact p.elim
  | exc C x e' =>
    rw [em] at p
    exact .inl ⟨F, L, Lf, env, s, er, by rw [em]; exact p⟩
  | ok t e' =>
    rw [em] at p
    dsimp only at p
    cases hi : t.frz.items with
    | none => rw [hi] at p; exact p.elim
    | some ts =>
      rw [hi] at p
      have base : ∀ v H' F' La Lb, Sx H' (La ++ (Lb ++ Lf)) F' → Same F F' → RV G σ F' La v t → EnvR G F' Lb σ e' → Sx H' (Lb ++ Lf) (addC F' La) ∧ Tr G.K G.cn (addC F' La) [] v t.frz.un ∧ (∀ Jt, ItS G (addC F' La) Jt ts → R Jt H') := by
        intro v H' F' La Lb s' sm r er'
        have sF := s'.addC_same
        have tr := un_tr ((Tr.mono sF r).frz fun c hc => s'.addC_mem hc)
        exact ⟨s'.stand, tr, fun Jt its => p Jt H' (addC F' La) [] Lb s'.stand (same_trans sm sF) ⟨rfl, its⟩ (er'.mono sF)⟩
      unfold T.items at hi
      cases hu : t.frz.un with
      | lst o us =>
        rw [hu] at hi; cases hi
        refine .inl ⟨F, L, Lf, env, s, er, by
          rw [em]
          intro v H' F' La Lb s' sm r er'
          obtain ⟨s2, tr, fin⟩ := base v H' F' La Lb s' sm r er'
          rw [hu] at tr
          cases tr with
          | lstO _ p => exact absurd (List.nil_perm.mp p) (by simp)
          | @lstF a xs _ ea ta =>
            exact ⟨a, rfl, ⟨xs, .inl (.inl (s2.sm _ _ ea))⟩, fin _ (its_list (fun F2 sm2 => .inl (.inl (sm2 _ _ ea))) ta)⟩⟩
      | tup us =>
        rw [hu] at hi; cases hi
        refine .inr (.inl ⟨F, L, Lf, env, s, er, by
          rw [em]
          intro v H' F' La Lb s' sm r er'
          obtain ⟨s2, tr, fin⟩ := base v H' F' La Lb s' sm r er'
          rw [hu] at tr
          cases tr with
          | @tup a xs _ _ ea ta =>
            exact ⟨a, rfl, ⟨xs, s2.seqT ea⟩, fin _ (its_tup (fun F2 sm2 => same_seqT sm2 ea) ta)⟩⟩)
      | str us =>
        rw [hu] at hi; cases hi
        refine .inr (.inr ⟨F, L, Lf, env, s, er, by
          rw [em]
          intro v H' F' La Lb s' sm r er'
          obtain ⟨s2, tr, fin⟩ := base v H' F' La Lb s' sm r er'
          rw [hu] at tr
          cases tr
          exact ⟨_, rfl, fin _ its_str⟩⟩)
      | sq ns =>
        rw [hu] at hi; cases hi
        refine .inl ⟨F, L, Lf, env, s, er, by
          rw [em]
          intro v H' F' La Lb s' sm r er'
          obtain ⟨s2, tr, fin⟩ := base v H' F' La Lb s' sm r er'
          rw [hu] at tr
          cases tr with
          | @sq a _ ea =>
            exact ⟨a, rfl, ⟨_, s2.sm.seq ea⟩, fin _ (its_list (xs := ns.map .int) (fun F2 sm2 => sm2.seq ea) TrA.of_ints)⟩⟩
      | _ => rw [hu] at hi; cases hi
theorem vals_imp {γ δ : Type} {R' : RT γ δ} {Q : δ → Hp → Prop} {k : List T → M γ} {σ : Sg} {H : Hp} (h0 : (os.map Opd.isIo).all (!·) = true) (q : rdG G R' W (valsM os k) σ H Q) :
    rdG G (RLi G (os.map Opd.isIo)) W (evA os) σ H fun vs H1 => ∃ F L Lf env ts, Sx H1 (L ++ Lf) F ∧ TrA G.K G.cn F [] vs ts ∧ EnvR G F L σ env ∧ PostG G R' W F Lf σ Q (k ts env) :=
  rdG_mono (rd_start (R := RLi G (os.map Opd.isIo)) q) fun vs H1 q1 => vals_fin q1 h0
theorem opt_ok {γ δ : Type} {R' : RT γ δ} {F : Hp} {Lf : List Cell} {σ : Sg} {Q : δ → Hp → Prop} {o : Option γ} {env : Env} (p : PostG G R' W F Lf σ Q (optM o env)) : ∃ a, o = some a ∧ PostG G R' W F Lf σ Q (.ok a env) := by
  cases o with
  | none => exact p.elim
  | some a => exact ⟨a, rfl, p⟩
theorem di_rng1 {a : Expr} {p pos : Pos} {o : Opd} (hg : Gl X "range") (hm : X.mg "range" = none) (ha : DA G W X [a] [o]) (h0 : ([o].map Opd.isIo).all (!·) = true) (hs : starEach [a] X.env = [(false, eval a X.env)] := by rfl) : DI G W X tgx (.Call (.Name "range" p) [a] [] pos) (rngE1 [o]) :=
  (pi_range1 hg hm ha hs).imp fun σ H R q => rdG_mono (vals_imp h0 q) fun vs H1 ⟨F, L, Lf, env, ts, s, tr, er, p⟩ => by
    obtain ⟨r, hr, p⟩ := opt_ok p
    unfold rngT1 at hr
    split at hr
    · rename_i n
      split at hr
      · rename_i hn
        cases hr
        cases tr with
        | cons a b _ =>
          cases b; cases a
          refine ⟨n, rfl, hn.2, hn.1, p _ H1 F [] L s same_refl ⟨rfl, ?_⟩ er⟩
          have z := its_rng (G := G) (F := F) (lo := 0) (n := n.toNat)
          simpa using z
      · cases hr
    · cases hr
theorem lst_nil {K : PySem.W.Frag} {cn : Str → Addr} {F : Hp} {v : V} {o : Bool} {ts : List T} (h : Tr K cn F [] v (.lst o ts)) : ∃ a xs, v = .ref a ∧ F a = some (.lst xs) ∧ TrA K cn F [] xs ts := by
  cases h with
  | lstF e ta => exact ⟨_, _, rfl, e, ta⟩
  | lstO _ p => exact absurd (List.nil_perm.mp p) (by simp)
theorem tr_nil {K : PySem.W.Frag} {cn : Str → Addr} {F : Hp} {L1 L2 : List Cell} {v : V} {t : T} (tr : Tr K cn F L1 v t) (p : ([] : List Cell).Perm (L1 ++ L2)) : Tr K cn F [] v t := by
  have : L1 = [] := (List.append_eq_nil_iff.mp (List.nil_perm.mp p)).1
  rw [this] at tr; exact tr
theorem its_zip {F : Hp} {a b : Addr} {xs ys : List V} {us ws : List T} (h : F a = some (.lst xs)) (h2 : F b = some (.lst ys)) (ta : TrA G.K G.cn F [] xs us) (tb : TrA G.K G.cn F [] ys ws) : ItS G F (Itz G.K a b) ((us.zip ws).map fun p => .tup [p.1, p.2]) := by
  have sq : ∀ {H L F'}, Sx H L F' → Same F F' → SqL G.K H a xs := fun s sm => .inl (.inl (s.sm _ _ (sm _ _ h)))
  have sq2 : ∀ {H L F'}, Sx H L F' → Same F F' → SqL G.K H b ys := fun s sm => .inl (.inl (s.sm _ _ (sm _ _ h2)))
  refine ⟨fun i H L F' s sm hi => ?_, fun i H L F' s sm hi => ⟨xs, ys, sq s sm, sq2 s sm, by rw [ta.len, tb.len]; simp at hi; omega⟩⟩
  simp only [List.length_map, List.length_zip] at hi
  have hi1 : i < us.length := by omega
  have hi2 : i < ws.length := by omega
  obtain ⟨v, L1, L2, e1, tr, p⟩ := ta.get (List.getElem?_eq_getElem hi1)
  obtain ⟨w, M1, M2, e2, tr2, p2⟩ := tb.get (List.getElem?_eq_getElem hi2)
  refine ⟨⟨xs, ys, v, w, sq s sm, sq2 s sm, e1, e2⟩, fun x H' hy => ?_⟩
  obtain ⟨Ta, y, z, rfl, hn, rfl, hy, hz⟩ := hy
  have := hy xs (sq s sm)
  rw [e1] at this; cases this
  have := hz ys (sq2 s sm)
  rw [e2] at this; cases this
  have s1 : Sx (upd H Ta (.tup [v, w])) ([(Ta, .tup [v, w])] ++ L) F' := s.new hn _
  have sF := s1.addC_same
  refine ⟨_, s1.stand, sF, fun t ht => ?_⟩
  rw [List.getElem?_map, show (us.zip ws)[i]? = some (us[i], ws[i]) from List.getElem?_zip_eq_some.mpr ⟨List.getElem?_eq_getElem hi1, List.getElem?_eq_getElem hi2⟩] at ht
  simp at ht; subst ht
  exact .tup (.inl (.inl (s1.addC_mem List.mem_cons_self))) (.cons (((tr_nil tr p).mono sm).mono sF) (.cons (((tr_nil tr2 p2).mono sm).mono sF) .nil (.refl _)) (.refl _))
theorem di_zip {a b : Expr} {p pos tpos : Pos} {elts : List Expr} {kk : Nat} {o o2 : Opd} (hg : Gl X "zip") (hm : X.mg "zip" = none) (ha : DA G W X [a, b] [o, o2]) (h0 : ([o, o2].map Opd.isIo).all (!·) = true) (hK : X.K = G.K) (hs : starEach [a, b] X.env = (false, eval a X.env) :: starEach [b] X.env := by rfl) (hpl : (backTo pos (starEach [b] X.env)).any (·.1) = false := by rfl) :
    DI G W X (.Tuple elts kk tpos) (.Call (.Name "zip" p) [a, b] [] pos) (zipE [o, o2]) :=
  (pi_zip hg hm ha hs hpl).imp fun σ H R q => by
    rw [hK]
    exact rdG_mono (vals_imp h0 q) fun vs H1 ⟨F, L, Lf, env, ts, s, tr, er, p⟩ => by
      obtain ⟨r, hr, p⟩ := opt_ok p
      unfold zipT at hr
      split at hr
      · cases hr
        cases tr with
        | @cons _ _ _ _ _ A B a b q =>
          have hB : B = [] := (List.append_eq_nil_iff.mp (List.nil_perm.mp q)).2
          subst hB
          cases b with
          | cons c d q2 =>
            cases d
            obtain ⟨ad, xs, rfl, e1, ta⟩ := lst_nil (tr_nil a q)
            obtain ⟨bd, ys, rfl, e2, tb⟩ := lst_nil (tr_nil c q2)
            exact ⟨ad, bd, xs, ys, rfl, .inl (.inl (s.sm _ _ e1)), .inl (.inl (s.sm _ _ e2)), p _ H1 F [] L s same_refl ⟨rfl, its_zip e1 e2 ta tb⟩ er⟩
      · cases hr
end
noncomputable def W0 : WX := fun _ _ _ _ => False
section
variable {G : Ct} {W : WX} {J : List Nat} {X : Cx} {tgx iter elt : Expr} {ifs : List Expr} {scope : Scope} {own : List (Str × Nat)} {vs : List Nat} {pos : Pos} {g : TG} {f : Tgt} {it : M (List T)} {c : M Bool} {el : M T}
theorem de_lc (hc : X.calm = true) (hN : X.N.Nodup) (hi : DI G W X tgx iter it) (ok : BlkOk X.N X.env.scope scope own)
    (hg : ∀ (s : Shared) (H : Hp) (C : Addr) (cl : List (Str × Addr)) (fp : List Addr), PG (X.blk s H scope (compEnvC scope cl C X.env) fp) tgx g)
    (ht : ∀ (s : Shared) (H : Hp) (C : Addr) (cl : List (Str × Addr)) (fp : List Addr), PTs (X.blk s H scope (compEnvC scope cl C X.env) fp) ifs (rdG G RB W0 c))
    (he : ∀ (s : Shared) (H : Hp) (C : Addr) (cl : List (Str × Addr)) (fp : List Addr), DE G W0 (X.blk s H scope (compEnvC scope cl C X.env) fp) elt el)
    (tg : TgS G J g f) (hv : own.map (·.2) = vs) (hJ : ∀ i, i < X.N.length → i ∉ vs → i ∈ J) (hs : ∀ x, foldedSetIterable iter X.env x = pure x := by intro _; rfl) :
    DE G W X (.ListComp elt [⟨tgx, iter, ifs, 0⟩] scope pos) (lcE vs f it c el) := (pe_lc hc hN hi ok hg ht he hs).impL fun σ H Q hl q => by
  subst hv
  exact lc_imp (W0 := W0) (fun _ _ _ h => h) tg (fun _ _ _ h => h) (fun _ _ _ h => h) hJ hl q
theorem ds_lc {i : Nat} {y : Str} {py spos : Pos} (hc : X.calm = true) (hN : X.N.Nodup) (hy : X.N[i]? = some y) (hyl : X.env.scope.names.lookup y = some .local)
    (hsw : swapsWith (.ListComp elt [⟨tgx, iter, ifs, 0⟩] scope pos) (some (.Name y py)) spos.line X.env = pure true) (hi : DI G W X tgx iter it) (ok : BlkOk X.N X.env.scope scope own)
    (hg : ∀ (s : Shared) (H : Hp) (C : Addr) (cl : List (Str × Addr)) (fp : List Addr), PG (X.blk s H scope (compEnvC scope cl C X.env) fp) tgx g)
    (ht : ∀ (s : Shared) (H : Hp) (C : Addr) (cl : List (Str × Addr)) (fp : List Addr), PTs (X.blk s H scope (compEnvC scope cl C X.env) fp) ifs (rdG G RB W0 c))
    (he : ∀ (s : Shared) (H : Hp) (C : Addr) (cl : List (Str × Addr)) (fp : List Addr), DE G W0 (X.blk s H scope (compEnvC scope cl C X.env) fp) elt el)
    (tg : TgS G J g f) (hv : own.map (·.2) = vs) (hJ : ∀ i, i < X.N.length → i ∉ vs → i ∈ J) {J2 : List Nat} (hi2 : i ∉ J2) (hs : ∀ x, foldedSetIterable iter X.env x = pure x := by intro _; rfl) :
    DS G W J2 X (.Assign [.Name y py] (.ListComp elt [⟨tgx, iter, ifs, 0⟩] scope pos) spos) (asgS (tgN i) (lcE vs f it c el)) :=
  (ps_setLc hc hN hy hyl hsw hi ok hg ht he hs).impL fun D σ H hl q => by
    subst hv
    exact lc_imp (W0 := W0) (fun _ _ _ h => h) tg (fun _ _ _ h => h) (fun _ _ _ h => h) hJ hl (asg_imp (tg_name hi2) q)
end
end En
set_option maxRecDepth 100000
set_option maxHeartbeats 1000000
namespace En
open PySem PySem.Spec PyProof.Rows L2 Gk
local macro_rules | `(tactic| walk_at "pm") => `(tactic| (simp only [List.perm_iff_count, List.count_append, List.count_cons, List.count_nil] at *; grind))
section
variable {G : Ct} {W : WX} {J : List Nat} {X : Cx} {e a b c o value : Expr} {es : List Expr} {m : M T} {op o1 o2 o3 : Opd} {os : List Opd} {pos : Pos} {σ : Sg} {H : Hp} {mf : List T → Fr} {Q : VK}
/-- one operand -/
noncomputable def Does1 (G : Ct) (r : V → Hp → VK → Prop) (mf : List T → Fr) : Prop := ∀ x H Q E, spE G [false] mf [x] H Q E → r x H Q
theorem op1_imp {r : V → Hp → VK → Prop} (hd : Does1 G r mf) (h1 : o1.isIo = false) (q : rdG G (RV G) W (callE1 mf o1) σ H Q) : rdG G (ROp G o1.isIo) W (evO o1) σ H fun x H1 => r x H1 Q :=
  rdG_mono (rd_start (R := ROp G o1.isIo) q) fun v H1 q1 => by
    rw [h1] at q1
    have z := fin_call1 (B := fun vs H Q E => ∃ x, vs = [x] ∧ r x H Q) (fun vs H Q E h => by
      have hl := spE_len h
      match vs, hl with
      | [x], _ => exact ⟨x, rfl, hd _ _ _ _ h⟩) q1
    obtain ⟨x, e, h⟩ := z
    cases e; exact h
theorem de_un {uop : UnaryOp} {r : V → Hp → VK → Prop} (ho : UnR X (unaryOp uop) r) (hd : Does1 G r mf) (ha : DO G W X a o1) (h1 : o1.isIo = false := by rfl) : DE G W X (.UnaryOp uop a pos) (callE1 mf o1) :=
  (pe_un ho ha).imp fun σ H Q q => op1_imp hd h1 q
/-- slices -/
noncomputable def partM : Option (M T) → M (Option Int)
  | none => rp none
  | some m => rb m fun t => match t.un with
    | .int i => rp (some i)
    | _ => fun _ => .bad
noncomputable def RPO : RT (Option Int) (Option Int) := fun _ _ L b a => L = [] ∧ b = a
theorem dpo_none : PO X none (rdG G RPO W (partM none)) := ⟨fun pins s σ H Q I q => po_none.run pins s σ H Q I (by
  show Q none H
  exact rd_rp (a := (none : Option Int)) q fun F => ⟨rfl, rfl⟩)⟩
theorem dpo_some (h : DE G W X e m) : PO X (some e) (rdG G RPO W (partM (some m))) := ⟨fun pins s σ H Q I q => (po_some h).run pins s σ H Q I (by
  refine rdG_mono (rd_start (R := RV G) q) fun v H1 q1 => ?_
  obtain ⟨F, L1, L, Lf, env, a, s, r, er, p⟩ := q1
  dsimp only at p
  cases e : a.un with
  | int i =>
    rw [e] at p
    have r := un_tr r
    rw [e] at r
    exact ⟨i, r.intI, p (some i) H1 F [] L s.right same_refl ⟨rfl, rfl⟩ er⟩
  | _ => rw [e] at p; exact p.elim)⟩
noncomputable def slE (mf : Option Int → Option Int → List T → Fr) (o : Opd) (lo hi : Option (M T)) : M T := rb (evO o) fun x => rb (partM lo) fun l => rb (partM hi) fun h => callM (mf l h) [x]
theorem de_sl {r : V → Option Int → Option Int → Hp → VK → Prop} {mf : Option Int → Option Int → List T → Fr} {lo hi : Option Expr} {l h : Option (M T)} {p2 : Pos} (hr : L2.SlR X r) (hd : ∀ l h, Does1 G (fun x H Q => r x l h H Q) (mf l h)) (he : DO G W X e o1)
    (hl : PO X lo (rdG G RPO W (partM l))) (hh : PO X hi (rdG G RPO W (partM h))) (h1 : o1.isIo = false := by rfl) : DE G W X (.Subscript e (.Slice lo hi none p2) pos) (slE mf o1 l h) :=
  (pe_slice hr he hl hh).imp fun σ H Q q => by
    refine rdG_mono (rd_start (R := ROp G o1.isIo) q) fun v H1 q1 => ?_
    refine rdG_mono (rd_step (R2 := RPO) (fun e h => ROp.mn e h) q1) fun x H2 q2 => ?_
    refine rdG_mono (rd_step (R2 := RPO) (fun e h => Rp.mn (fun e h => ROp.mn e h) (fun _ h => h) e h) q2) fun y H3 q3 => ?_
    obtain ⟨F, L1, L, Lf, env, ⟨⟨a, x'⟩, y'⟩, s, ⟨La, Lb, pp, ⟨Lc, Ld, pp2, r1, r2⟩, r3⟩, er, p⟩ := q3
    obtain ⟨rfl, rfl⟩ := r2
    obtain ⟨rfl, rfl⟩ := r3
    rw [h1] at r1
    have z := fin_call1 (B := fun vs H Q E => ∃ v, vs = [v] ∧ r v x y H Q) (io := false) (mf := mf x y) (G := G) (W := W) (v := v) (σ := σ) (H := H3) (Q := Q) (fun vs H Q E h => by
      have hl := spE_len h
      match vs, hl with
      | [w], _ => exact ⟨w, rfl, hd _ _ _ _ _ _ h⟩) ⟨F, Lc, L, Lf, env, a, s.perm (by walk_at "pm"), r1, er, p⟩
    obtain ⟨w, e, h⟩ := z
    cases e; exact h
/-- methods of built-in types -/
theorem bm_imp {chk : T → Bool} {P : V → Hp → Prop} {r : V → List V → Hp → VK → Prop} (hc : ∀ v t H, chk t = true → TrH G H v t → P v H) (hd : Does G (op.isIo :: os.map Opd.isIo) mf (fun vs H Q _ => ∃ x xs, vs = x :: xs ∧ r x xs H Q))
    (q : rdG G (RV G) W (methE chk mf op os) σ H Q) : rdG G (ROp G op.isIo) W (evO op) σ H fun x H1 => P x H1 ∧ rdG G (RLi G (os.map Opd.isIo)) W (evA os) σ H1 fun xs H2 => r x xs H2 Q := by
  refine rdG_mono (rd_start (R := ROp G op.isIo) q) fun v H1 q1 => ?_
  obtain ⟨⟨t, hc', ht⟩, q2⟩ := rdK_chk q1
  refine ⟨hc v t H1 hc' ht, rdG_mono (rd_step (R2 := RLi G (os.map Opd.isIo)) (fun e h => ROp.mn e h) q2) fun vs H2 q3 => ?_⟩
  obtain ⟨x, xs, e, h⟩ := fin_callm hd q3
  cases e; exact h
theorem nil_args {r : List V → Hp → Prop} (h : rdG G (RLi G []) W (evA []) σ H r) : r [] H := rd_rp (a := ([] : List AT)) (b := ([] : List V)) h fun F => ⟨.nil, rfl⟩
theorem one_arg {r : V → Hp → Prop} (h : rdG G (RLi G [op.isIo]) W (evA [op]) σ H (fun xs H1 => ∀ x, xs = [x] → r x H1)) : rdG G (ROp G op.isIo) W (evO op) σ H r := by
  have z : rdG G (RLi G [op.isIo]) W (rb (evO op) fun a => rb (evA []) fun as => rp (a :: as)) σ H (fun xs H1 => ∀ x, xs = [x] → r x H1) := h
  refine rdG_mono (rd_start (R := ROp G op.isIo) z) fun v H1 q1 => ?_
  have q2 := nil_args (rd_step (R2 := RLi G []) (fun e h => ROp.mn e h) q1)
  refine rdK_rp (c := [v]) q2 ?_ v rfl
  rintro F L ⟨x, as⟩ ⟨La, Lb, p, h1, h2⟩
  have ha : as = [] := by have := h2.2; simpa using this
  subst ha
  exact ⟨.cons h1.1 h2.1 p, by simp [h1.2]⟩
theorem de_bm {Ty id : String} {name : Str} {apos cpos : Pos} {chk : T → Bool} {r : V → List V → Hp → VK → Prop} (hK : X.K = G.K) (pa : PlainAttrs Ty) (slot : Slot Ty name id) (hty : typeOf (.builtin id) = pure (.type "method_descriptor")) (hm : MtR X id r)
    (hc : ∀ v t H, chk t = true → TrH G H v t → tyV G.K Ty v H) (hd : Does G (op.isIo :: (o1 :: os).map Opd.isIo) mf (fun vs H Q _ => ∃ x xs, vs = x :: xs ∧ r x xs H Q)) (ho : DO G W X o op) (ha : DA G W X (e :: es) (o1 :: os))
    (hbase : attributeBase o name X.env (eval o X.env) = eval o X.env := by rfl)
    (hfew : ((backTo cpos (starEach (e :: es) X.env)).all (fun x => !x.1) && (backToKw cpos (keywordEach [] X.env)).all (fun x => x.1.isSome)
      && decide ((e :: es).length + ([] : List Keyword).length + (if ([] : List Keyword).isEmpty then 0 else 1) < 30)) = true := by rfl)
    (hline : (apos.endLine == cpos.line) = true := by rfl) (hs : starEach (e :: es) X.env = (false, eval e X.env) :: starEach es X.env := by rfl) (hplain : (backTo cpos (starEach es X.env)).any (·.1) = false := by rfl) :
    DE G W X (.Call (.Attribute o name apos) (e :: es) [] cpos) (methE chk mf op (o1 :: os)) :=
  (bm_k (K := G.K) hK (pe_bm pa slot hty hm ho ha hbase hfew hline hs hplain)).imp fun σ H Q q => bm_imp hc hd q
noncomputable def chkS : T → Bool := fun t => match t.un with
  | .str _ => true
  | _ => false
theorem chkS_ok (v : V) (t : T) (H : Hp) (h : chkS t = true) (tr : TrH G H v t) : ∃ z, v = .str z := by
  obtain ⟨F, L, sm, ce, tr⟩ := tr
  have tr := un_tr tr
  unfold chkS at h
  cases hu : t.un with
  | str s => rw [hu] at tr; exact ⟨_, tr.strI⟩
  | _ => rw [hu] at h; cases h
noncomputable def chkL : T → Bool := fun t => match t.un with
  | .lst _ _ => true
  | _ => false
theorem chkL_ok (v : V) (t : T) (H : Hp) (h : chkL t = true) (tr : TrH G H v t) : tyV G.K "list" v H := by
  obtain ⟨F, L, sm, ce, tr⟩ := tr
  have tr := un_tr tr
  unfold chkL at h
  cases hu : t.un with
  | lst o ts =>
    rw [hu] at tr
    cases tr with
    | lstF e _ => exact .inl ⟨rfl, _, .inl (.inl (sm _ _ e))⟩
    | @lstO a xs _ _ _ _ p => exact .inl ⟨rfl, _, .inl (.inl (ce (a, .lst xs) (p.mem_iff.mpr List.mem_cons_self)))⟩
  | _ => rw [hu] at h; cases h
theorem de_m0 {r : V → List V → Hp → VK → Prop} {x : Expr} (h : PE X x (tM0 r (rdG G (ROp G op.isIo) W (evO op)))) (hd : Does G [op.isIo] mf (fun vs H Q _ => ∃ x xs, vs = x :: xs ∧ r x xs H Q)) : DE G W X x (methE chkS mf op []) :=
  h.imp fun σ H Q q => rdG_mono (bm_imp (os := []) (P := fun v _ => ∃ z, v = .str z) chkS_ok hd q) fun x H1 ⟨h1, h2⟩ => ⟨h1, nil_args h2⟩
theorem de_m1 {r : V → List V → Hp → VK → Prop} {x : Expr} (h : PE X x (tM1 r (rdG G (ROp G op.isIo) W (evO op)) (rdG G (ROp G o1.isIo) W (evO o1)))) (hd : Does G [op.isIo, o1.isIo] mf (fun vs H Q _ => ∃ x xs, vs = x :: xs ∧ r x xs H Q)) : DE G W X x (methE chkS mf op [o1]) :=
  h.imp fun σ H Q q => rdG_mono (bm_imp (os := [o1]) (P := fun v _ => ∃ z, v = .str z) chkS_ok hd q) fun x H1 ⟨h1, h2⟩ => ⟨h1, one_arg (rdG_mono h2 fun xs H2 h3 y hy => by subst hy; exact h3)⟩
theorem rd_exprS {m : M T} {D : Ends} (q : rdS G W J (exprS m) D σ H) : rdG G (RV G) W m σ H fun _ H1 => D.nx σ H1 := by
  obtain ⟨F, L, Lf, env, s, er, p⟩ := q
  refine ⟨F, L, Lf, env, s, er, ?_⟩
  unfold exprS ofE at p
  cases e : m env with
  | ok t e' => rw [e] at p; exact fun v H' F' La Lb s' sm r er' => p σ H' F' Lb (s'.right) sm er' .refl
  | exc C x e' => rw [e] at p; exact fun v d H' F' La Lb s' sm r er' => p v d σ H' F' La Lb s' sm r er' .refl
  | bad => rw [e] at p; exact p
/-- x[i] = e -/
noncomputable def setS3 (mf : List T → Fr) (ov o k : Opd) : Sm := exprS (rb (evO ov) fun y => rb (evO o) fun x => rb (evO k) fun i => callM mf [x, i, y])
theorem ds_set3 {t : TSet} {st : Stmt} {i : Nat} (h : PS X st (tAsg (rdG G (ROp G false) W (evO (.own m))) (gSub (rdG G (ROp G true) W (evO (.io i))) (rdG G (ROp G o3.isIo) W (evO o3)) t))) (h3 : o3.isIo = false)
    (hd : Does G [true, false, false] mf (fun vs H Q _ => ∃ x k y, vs = [x, k, y] ∧ t x k y H (fun H' => Q .non H'))) : DS G W J X st (setS3 mf (.own m) (.io i) o3) := h.imp fun D σ H q => by
  have q := rd_exprS q
  refine rdG_mono (rd_start (R := ROp G false) q) fun y H1 q1 => ?_
  refine rdG_mono (rd_step (R2 := ROp G true) (fun e h => ROp.mn e h) q1) fun x H2 q2 => ?_
  refine rdG_mono (rd_step (R2 := ROp G o3.isIo) (fun e h => Rp.mn (fun e h => ROp.mn e h) (fun e h => ROp.mn e h) e h) q2) fun k H3 q3 => ?_
  obtain ⟨F, L1, L, Lf, env, ⟨⟨a, b⟩, c⟩, s, ⟨La, Lb, pp, ⟨Lc, Ld, pp2, r1, r2⟩, r3⟩, er, p⟩ := q3
  have z := call_core (as := [b, c, a]) (vs := [x, k, y]) (Q := fun _ H1 => D.nx σ H1) (B := fun vs H Q _ => ∃ x k y, vs = [x, k, y] ∧ t x k y H (fun H' => Q .non H')) (by simp only [List.map_cons, List.map_nil, r1.2, r2.2, r3.2, h3]; exact hd) s (.cons r2.1 (.cons r3.1 (.cons r1.1 .nil (by simp; exact .refl _)) (.refl _)) (by walk_at "pm")) er p
  obtain ⟨x', k', y', e, z⟩ := z
  cases e
  exact z
/-- a < b < c -/
noncomputable def AT.isO : AT → Bool
  | .o _ => true
  | _ => false
noncomputable def chainE (f g : List T → Fr) (a b c : Opd) : M T := rb (evO a) fun x => rb (evO b) fun y => if y.isO = true then (fun _ => .bad) else rb (callM f [x, y]) fun k => match k.un with
  | .bl true => rb (evO c) fun z => callM g [y, z]
  | .bl false => rp (.bl false)
  | _ => fun _ => .bad
theorem chain_imp {r r' : R2} {f g : List T → Fr} (hd : Does2 G r f) (hd' : Does2 G r' g) (h1 : o1.isIo = false) (h2 : o2.isIo = false) (h3 : o3.isIo = false) (q : rdG G (RV G) W (chainE f g o1 o2 o3) σ H Q) :
    tChain r r' (rdG G (ROp G o1.isIo) W (evO o1)) (rdG G (ROp G o2.isIo) W (evO o2)) (rdG G (ROp G o3.isIo) W (evO o3)) σ H Q := by
  refine rdG_mono (rd_start (R := ROp G o1.isIo) q) fun x H1 q1 => ?_
  refine rdG_mono (rd_step (R2 := ROp G o2.isIo) (fun e h => ROp.mn e h) q1) fun y H2 q2 => ?_
  obtain ⟨F, L1, L, Lf, env, ⟨a, b⟩, s, ⟨La, Lb, pp, ra, rbb⟩, er, p⟩ := q2
  dsimp only at p ra rbb
  have key : ∀ {as : List AT} {mf : List T → Fr} {r : R2} {F : Hp} {L1 L Lf : List Cell} {env : Env} {H : Hp} {x y : V} {Q : VK}, Does2 G r mf → as.map AT.isIo = [false, false] → Sx H (L1 ++ (L ++ Lf)) F → ATL G σ F L1 [x, y] as → EnvR G F L σ env → PostG G (RV G) W F Lf σ Q (callM mf as env) → r x y H Q := by
    intro as mf r F L1 L Lf env H x y Q hd hio s rr er p
    obtain ⟨x', y', e, h⟩ := call_core (B := fun vs H Q _ => ∃ x y, vs = [x, y] ∧ r x y H Q) (by
      rw [hio]
      intro vs H Q E h
      have hl := spE_len h
      match vs, hl with
      | [x, y], _ => exact ⟨x, y, rfl, hd _ _ _ _ _ h⟩) s rr er p
    cases e; exact h
  by_cases ho : b.isO = true
  · rw [if_pos ho] at p; exact p.elim
  · rw [if_neg ho] at p
    have hb : Lb = [] := by
      cases b with
      | t x => exact rbb.1.1
      | o x => exact absurd rfl ho
      | s i => exact rbb.1.1
      | io i => exact rbb.1.1
    subst hb
    refine key hd (by simp [ra.2, rbb.2, h1, h2]) s (.cons ra.1 (.cons rbb.1 .nil (.refl _)) pp) er ?_
    unfold rb at p
    cases e : callM f [a, b] env with
    | bad => rw [e] at p; exact p.elim
    | exc C x e' => rw [e] at p; exact p
    | ok t e' =>
      rw [e] at p
      dsimp only at p
      intro v H' F' Lc Ld s' sm r er'
      have r := un_tr r
      cases hu : t.un with
      | bl k =>
        rw [hu] at p r
        refine ⟨k, r.blI, ?_⟩
        cases k with
        | false => exact p (.bl false) H' F' [] Ld s'.right sm (.bl _) er'
        | true =>
          simp only [if_true]
          refine ⟨F', Ld, Lf, e', s'.right, er', ?_⟩
          dsimp only at p
          cases e3 : evO o3 e' with
          | bad => rw [e3] at p; exact p.elim
          | exc C x e4 => rw [e3] at p; exact fun v d H5 F5 Lp Lq s5 sm5 r5 er5 => p v d H5 F5 Lp Lq s5 (same_trans sm sm5) r5 er5
          | ok zt e4 =>
            rw [e3] at p
            intro w H4 F4 Lp Lq s4 sm4 r4 er4
            exact key hd' (as := [b, zt]) (by simp [rbb.2, r4.2, h2, h3]) s4 (.cons (rbb.1.mn (same_trans sm sm4)) (.cons r4.1 .nil (.refl _)) (by simp)) er4 (p.mono (same_trans sm sm4))
      | _ => rw [hu] at p; exact p.elim
theorem dt_chain {cop cop' : CmpOp} {r r' : R2} {f g : List T → Fr} (ho : OpR X (compareOp cop) r) (ho' : OpR X (compareOp cop') r') (hd : Does2 G r f) (hd' : Does2 G r' g) (ha : DO G W X a o1) (hb : DO G W X b o2) (hc : DO G W X c o3)
    (h1 : o1.isIo = false := by rfl) (h2 : o2.isIo = false := by rfl) (h3 : o3.isIo = false := by rfl) (hm : lastMarks [cop, cop'] [b, c] = false := by with_unfolding_all rfl) : DT G W X (.Compare a [cop, cop'] [b, c] pos) (tstB (chainE f g o1 o2 o3)) :=
  (pt_chain ho ho' ha hb hc hm).imp fun σ H Q q => chain_imp hd hd' h1 h2 h3 (rd_tstB q)
/-- truth -/
noncomputable def T.tru : T → Option Bool
  | .non => some false
  | .bl b => some b
  | .int i => some (i != 0)
  | .str s => if s.length ≤ lim then some (!s.isEmpty) else none
  | .lst _ ts => some (!ts.isEmpty)
  | .tup ts => some (!ts.isEmpty)
  | _ => none
noncomputable def truE (m : M T) : M Bool := rb m fun t => optM t.un.tru
theorem isEmpty_len {K : PySem.W.Frag} {cn : Str → Addr} {F : Hp} {L : List Cell} {vs : List V} {ts : List T} (h : TrA K cn F L vs ts) : (!ts.isEmpty) = !vs.isEmpty := by cases h <;> rfl
theorem dt_tru (hK : X.K = G.K) (he : DE G W X a m) (ht : ∀ whole, isTrue a X.env whole = (do let v ← whole; standAt a.pos; holding [v] (truthy v)) := by intro _; rfl) : DT G W X a (truE m) :=
  (pt_truk (K := G.K) hK (pt_tru he ht)).imp fun σ H Q q => by
    refine rdG_mono (rd_start (R := RV G) q) fun v H1 q1 => ?_
    obtain ⟨F, L1, L, Lf, env, t, s, r, er, p⟩ := q1
    have r := un_tr r
    dsimp only at p
    cases ht : t.un.tru with
    | none => rw [ht] at p; exact p.elim
    | some k =>
      rw [ht] at p
      refine ⟨k, ?_, p k H1 F [] L s.right same_refl ⟨rfl, rfl⟩ er⟩
      cases hu : t.un with
      | non => rw [hu] at r ht; rw [r.nonI]; cases ht; rfl
      | bl b => rw [hu] at r ht; rw [r.blI]; cases ht; rfl
      | int i => rw [hu] at r ht; rw [r.intI]; cases ht; rfl
      | str z =>
        rw [hu] at r ht
        rw [r.strI]
        simp only [T.tru] at ht
        split at ht
        · rename_i hl
          cases ht
          refine ⟨by rw [tx_len]; exact Nat.le_trans hl lim_le, ?_⟩
          rw [tx_len]
          cases z <;> simp
          omega
        · cases ht
      | lst o ts =>
        rw [hu] at r ht
        cases ht
        obtain ⟨ad, xs, D, L', rfl, e1, ta, _⟩ := r.lst s
        exact .inl ⟨xs, .inl (.inl e1), isEmpty_len ta⟩
      | tup ts =>
        rw [hu] at r ht
        cases ht
        obtain ⟨ad, xs, rfl, e1, ta⟩ := r.tupI s
        exact .inr (.inl ⟨xs, e1, isEmpty_len ta⟩)
      | _ => rw [hu] at ht; cases ht
/-- {} -/
noncomputable def dnewE : M T := rp (.dct true [] [])
theorem de_dnew (h : PE X e tDNewK) : DE G W X e dnewE := h.imp fun σ H Q q => by
  obtain ⟨F, L, Lf, env, s, er, p⟩ := q
  exact fun a ha => p (.ref a) _ F [(a, .dK [])] L (s.new ha _) same_refl (.dctO (kvs := []) rfl .nil (.refl _)) er
end
end En
set_option maxRecDepth 100000
set_option maxHeartbeats 1000000
namespace En
open PySem PySem.Spec PyProof.Rows L2 Gk
local macro_rules | `(tactic| walk_at "pm") => `(tactic| (simp only [List.perm_iff_count, List.count_append, List.count_cons, List.count_nil] at *; grind))
noncomputable def Ct.su (G : Ct) (a d : Addr) (C : Str) : Ct := { G with ea := a, ed := d, ec := C }
noncomputable def T.isE : T → Bool
  | .exn _ _ => true
  | _ => false
noncomputable def noE (e : Env) : Bool := e.all fun t => !t.isE
/-- a clause: the class, the name, the suite -/
noncomputable abbrev Hd := Str × Option Nat × Sm
noncomputable def mapR (f : Env → Env) : Rt → Rt
  | .nxt e => if noE (f e) = true then .nxt (f e) else .bad
  | .ret t e => if noE (f e) = true then .ret t (f e) else .bad
  | .brk e => if noE (f e) = true then .brk (f e) else .bad
  | .cnt e => if noE (f e) = true then .cnt (f e) else .bad
  | _ => .bad
noncomputable def hdl (sb : Str → Str → Option Bool) : List Hd → Str → T → Env → Rt
  | [], C, x, e => .exc C x e
  | (D, oi, ms) :: r, C, x, e => match sb C D with
    | none => .bad
    | some true => if noE e = true then (match oi with
      | none => mapR id (ms e)
      | some i => if i < e.length then mapR (fun e => e.set i .unb) (ms (e.set i (.exn C x))) else .bad) else .bad
    | some false => hdl sb r C x e
noncomputable def tryS (sb : Str → Str → Option Bool) (body : Sm) (hs : List Hd) : Sm := fun e => match body e with
  | .exc C x e' => hdl sb hs C x e'
  | r => r
section
variable {G : Ct} {F : Hp} {L : List Cell} {σ : Sg} {env : Env} {a d : Addr} {C : Str}
theorem EnvR.su (er : EnvR G F L σ env) (h : noE env = true) : EnvR (G.su a d C) F L σ env := by
  induction er with
  | nil t => exact .nil t
  | @cons o σ t env L L1 L2 sl er p ih =>
    simp only [noE, List.all_cons, Bool.and_eq_true] at h
    refine .cons ?_ (ih h.2) p
    cases sl with
    | unb => exact .unb _
    | val tr => exact .val tr
    | exn tr q => simp [T.isE] at h
theorem EnvR.unsu (er : EnvR (G.su a d C) F L σ env) (h : noE env = true) : EnvR G F L σ env := by
  induction er with
  | nil t => exact .nil t
  | @cons o σ t env L L1 L2 sl er p ih =>
    simp only [noE, List.all_cons, Bool.and_eq_true] at h
    refine .cons ?_ (ih h.2) p
    cases sl with
    | unb => exact .unb _
    | val tr => exact .val tr
    | exn tr q => simp [T.isE] at h
theorem EnvR.setU {i : Nat} {o : Option V} (er : EnvR G F L σ env) : ∃ L' D, L.Perm (L' ++ D) ∧ EnvR G F L' (σ.set i o) (env.set i .unb) := by
  cases h : env[i]? with
  | none =>
    have hi : env.length ≤ i := List.getElem?_eq_none_iff.mp h
    rw [List.set_eq_of_length_le hi, List.set_eq_of_length_le (by rw [er.len]; exact hi)]
    exact ⟨L, [], by simp, er⟩
  | some t =>
    obtain ⟨o1, La, Lb, e1, pp, sl, put⟩ := er.get h
    exact ⟨Lb, La, by walk_at "pm", put F o [] .unb same_refl (.unb _)⟩
theorem EnvR.setU' {i : Nat} (er : EnvR G F L σ env) : ∃ L' D, L.Perm (L' ++ D) ∧ EnvR G F L' σ (env.set i .unb) := by
  cases h : env[i]? with
  | none =>
    have hi : env.length ≤ i := List.getElem?_eq_none_iff.mp h
    rw [List.set_eq_of_length_le hi]
    exact ⟨L, [], by simp, er⟩
  | some t =>
    obtain ⟨o1, La, Lb, e1, pp, sl, put⟩ := er.get h
    have z := put F o1 [] .unb same_refl (.unb _)
    rw [set_self e1] at z
    exact ⟨Lb, La, by walk_at "pm", z⟩
/-- behind a named suite -/
theorem post_named {J : List Nat} {Lf : List Cell} {W : WX} {D : Ends} {i : Nat} {v : V} {r : Rt} (hi : i ∉ J) (p : PostS G W J F Lf σ D (mapR (fun e => e.set i .unb) r)) : PostS (G.su a d C) W0 J F Lf (σ.set i (some v)) (clD i D) r := by
  have kp : ∀ {σ' : Sg}, Kp J (σ.set i (some v)) σ' → Kp J σ (σ'.set i none) := fun k => ((Kp.set hi).trans k).trans (Kp.set hi)
  cases r with
  | nxt e =>
    simp only [mapR] at p
    split at p
    · rename_i hn
      intro σ' H' F' La s sm er k
      obtain ⟨L', D', q, er'⟩ := er.setU (i := i) (o := none)
      exact p (σ'.set i none) H' F' L' ((s.perm (M := D' ++ (L' ++ Lf)) (by walk_at "pm")).right) sm (er'.unsu hn) (kp k)
    · exact p.elim
  | brk e =>
    simp only [mapR] at p
    split at p
    · rename_i hn
      intro σ' H' F' La s sm er k
      obtain ⟨L', D', q, er'⟩ := er.setU (i := i) (o := none)
      exact p (σ'.set i none) H' F' L' ((s.perm (M := D' ++ (L' ++ Lf)) (by walk_at "pm")).right) sm (er'.unsu hn) (kp k)
    · exact p.elim
  | cnt e =>
    simp only [mapR] at p
    split at p
    · rename_i hn
      intro σ' H' F' La s sm er k
      obtain ⟨L', D', q, er'⟩ := er.setU (i := i) (o := none)
      exact p (σ'.set i none) H' F' L' ((s.perm (M := D' ++ (L' ++ Lf)) (by walk_at "pm")).right) sm (er'.unsu hn) (kp k)
    · exact p.elim
  | ret t e =>
    simp only [mapR] at p
    split at p
    · rename_i hn
      intro v' σ' H' F' La Lb s sm tr er k
      obtain ⟨L', D', q, er'⟩ := er.setU' (i := i)
      exact p v' σ' H' F' La L' ((s.perm (M := D' ++ (La ++ (L' ++ Lf))) (by walk_at "pm")).right) sm tr (er'.unsu hn) ((Kp.set hi).trans k)
    · exact p.elim
  | exc C x e => exact p.elim
  | bad => exact p.elim
theorem post_plain {J : List Nat} {Lf : List Cell} {W : WX} {D : Ends} {r : Rt} (p : PostS G W J F Lf σ D (mapR id r)) : PostS (G.su a d C) W0 J F Lf σ D r := by
  cases r with
  | nxt e =>
    simp only [mapR] at p
    split at p
    · rename_i hn
      exact fun σ' H' F' La s sm er k => p σ' H' F' La s sm (er.unsu hn) k
    · exact p.elim
  | brk e =>
    simp only [mapR] at p
    split at p
    · rename_i hn
      exact fun σ' H' F' La s sm er k => p σ' H' F' La s sm (er.unsu hn) k
    · exact p.elim
  | cnt e =>
    simp only [mapR] at p
    split at p
    · rename_i hn
      exact fun σ' H' F' La s sm er k => p σ' H' F' La s sm (er.unsu hn) k
    · exact p.elim
  | ret t e =>
    simp only [mapR] at p
    split at p
    · rename_i hn
      exact fun v' σ' H' F' La Lb s sm tr er k => p v' σ' H' F' La Lb s sm tr (er.unsu hn) k
    · exact p.elim
  | exc C x e => exact p.elim
  | bad => exact p.elim
end
/-- a suite's reading -/
noncomputable def suT (G : Ct) (J : List Nat) (ms : Sm) : Addr → Value → Option Addr → TS := fun a cls d D σ H => ∃ dd C, d = some dd ∧ cls = .ref (G.cn C) ∧ rdS (G.su a dd C) W0 J ms D σ H
theorem su_ok {G : Ct} {J : List Nat} {ms : Sm} {X : Cx} {st : List Stmt} {a : Addr} {cls : Value} {d : Option Addr} (h : ∀ dd C, d = some dd → cls = .ref (G.cn C) → DSs (G.su a dd C) W0 J X st ms) : PSs X st (suT G J ms a cls d) :=
  ⟨fun pins s σ H D I ⟨dd, C, e1, e2, q⟩ => (h dd C e1 e2).run pins s σ H D I q⟩
inductive HdOk (G : Ct) (K : PySem.W.Frag) (J : List Nat) (sb : Str → Str → Option Bool) : List Hd → List Cl → Prop
  | nil : HdOk G K J sb [] []
  | cons {D : Str} {oi : Option Nat} {ms : Sm} {hs : List Hd} {c : Value} {l : List Cl} (hx : ∀ C b, sb C D = some b → PySem.W.exmOne K (.ref (G.cn C)) c = some b) (hi : ∀ i, oi = some i → i ∉ J) (r : HdOk G K J sb hs l) : HdOk G K J sb ((D, oi, ms) :: hs) ((c, oi, suT G J ms) :: l)
section
variable {G : Ct} {W : WX} {J : List Nat} {X : Cx} {sb : Str → Str → Option Bool} {body : List Stmt} {h0 : ExceptHandler} {hs : List ExceptHandler} {l : List Cl} {hd : List Hd} {mb : Sm} {pos : Pos}
theorem hdl_ok (hk : HdOk G X.K J sb hd l) {F : Hp} {Lf : List Cell} {σ σ' : Sg} {D : Ends} {C : Str} {x : T} {e : Env} {v : V} {d : Addr} {H' F' : Hp} {La Lb : List Cell} (p : PostS G W J F Lf σ D (hdl sb hd C x e)) (s : Sx H' ((d, xdO C v) :: (La ++ (Lb ++ Lf))) F') (sm : Same F F')
    (tr : Tr G.K G.cn F' La v x) (er : EnvR G F' Lb σ' e) (k : Kp J σ σ') : wCl X.K W D l (.ref (G.cn C)) (some d) σ' H' := by
  induction hk with
  | nil => exact p v d σ' H' F' La Lb s sm tr er k
  | @cons Dn oi ms hs c l hx hi r ih =>
    unfold hdl at p
    cases hsb : sb C Dn with
    | none => rw [hsb] at p; exact p.elim
    | some b =>
      rw [hsb] at p
      refine ⟨b, hx C b hsb, ?_, ?_⟩
      · rintro rfl a ha
        dsimp only at p
        by_cases hn : noE e = true
        · rw [if_pos hn] at p
          cases oi with
          | none =>
            refine ⟨d, C, rfl, rfl, F', Lb, Lf, e, ?_, er.su hn, post_plain (p.shift sm k)⟩
            exact (s.perm (M := ((d, xdO C v) :: La) ++ (Lb ++ Lf)) (by walk_at "pm")).right
          | some i =>
            dsimp only at p
            by_cases hl : i < e.length
            · rw [if_pos hl] at p
              have er2 := er.su (a := a) (d := d) (C := C) hn
              obtain ⟨o, Lc, Ld, e1, pp, sl, put⟩ := er2.get (List.getElem?_eq_getElem hl)
              have er3 := put F' (some (.ref a)) ((d, xdO C v) :: La) (.exn C x) same_refl (.exn (G := G.su a d C) tr (.refl _))
              refine ⟨d, C, rfl, rfl, F', _, Lf, _, ?_, er3, post_named (hi i rfl) (p.shift sm k)⟩
              exact (s.perm (M := Lc ++ (((d, xdO C v) :: La) ++ Ld ++ Lf)) (by walk_at "pm")).right
            · rw [if_neg hl] at p; exact p.elim
        · rw [if_neg hn] at p; exact p.elim
      · rintro rfl
        exact ih p
theorem ds_try (hst : X.stack = X.env :: X.outer) (hf : X.env.frame = some X.env.locals) (hN : X.N.Nodup) (tk : Takes X W)
    (hb : ∀ (W : WX) (pn : List (Addr × Obj)) (xe : Value → Shared → Prop), Takes (X.tr pn xe) W → PassesOwn (model X.prog X.w) X.A X.env xe → DSs G W J (X.tr pn xe) body mb)
    (hh : ClsOk X (h0 :: hs) l) (hk : HdOk G X.K J sb hd l) : DS G W J X (.Try body (h0 :: hs) [] [] pos) (tryS sb mb hd) := (ps_tryG hst hf hN tk (tb := fun W => rdS G W J mb) hb hh).imp fun D σ H q => by
  obtain ⟨F, L, Lf, env, s, er, p⟩ := q
  refine ⟨F, L, Lf, env, s, er, ?_⟩
  unfold tryS at p
  cases e : mb env with
  | exc C x e' =>
    rw [e] at p
    exact fun v d σ' H' F' La Lb s' sm tr er' k => hdl_ok hk p s' sm tr er' k
  | nxt e' => rw [e] at p; exact p
  | ret t e' => rw [e] at p; exact p
  | brk e' => rw [e] at p; exact p
  | cnt e' => rw [e] at p; exact p
  | bad => rw [e] at p; exact p
/-- e.found -/
noncomputable def fndE (i : Nat) (Cn : Str) : M T := fun e => match e[i]? with
  | some (.exn C x) => if C = Cn then .ok x.frz (e.set i (.exn C x.frz)) else .bad
  | _ => .bad
end
section
variable {G : Ct} {W : WX} {X : Cx} {a dd : Addr} {C0 : Str} {oe : Obj} {cls : Value} {pn : List (Addr × Obj)} {e : Expr} {pos : Pos} {i : Nat} {Cn : Str} {C B fI : Addr} {nb newId initId bq : String} {b cq : Str} {tl : List Value}
theorem de_fnd (hC : G.cn Cn = C) (N : NoC X.K X.mg C B fI newId initId bq b cq tl) (hz : Zc cls (some dd) oe) (hf : ∃ vs, oe.data = .fields vs) (hcl : cls = .ref (G.cn C0)) (he : PE (X.suite a ((a, oe) :: pn)) e (tVar i))
    (hb : attributeBase e "found" X.env (eval e X.env) = eval e X.env := by rfl) (hfl : fldX Cn = ("found" : Str) := by decide +kernel) : DE (G.su a dd C0) W (X.suite a ((a, oe) :: pn)) (.Attribute e "found" pos) (fndE i Cn) := (pe_found N hz hf he hb).imp fun σ H Q q => by
  obtain ⟨F, L, Lf, env, s, er, p⟩ := q
  unfold fndE at p
  cases ht : env[i]? with
  | none => rw [ht] at p; exact p.elim
  | some t =>
    rw [ht] at p
    cases t with
    | exn C' x =>
      dsimp only at p
      split at p
      · rename_i hCC
        subst hCC
        obtain ⟨o, La, Lb, e1, pp, sl, put⟩ := er.get ht
        cases sl with
        | val tr => cases tr
        | @exn v _ Lx _ tr q =>
          have s1 : Sx H (Lx ++ ((dd, xdO C0 v) :: (Lb ++ Lf))) F := s.perm (by
            have q' : La.Perm ((dd, xdO C0 v) :: Lx) := q
            walk_at "pm")
          have sF := s1.addC_same
          have tr2 := (Tr.mono sF tr).frz fun c hc => s1.addC_mem hc
          refine ⟨.ref a, e1, rfl, by rw [hcl, ← hC]; rfl, dd, v, rfl, by have z := (s1.perm (M := (dd, xdO C0 v) :: (Lx ++ (Lb ++ Lf))) (by walk_at "pm")).cell; have hfl : fldX C0 = ("found" : Str) := hfl; unfold xdO at z; rw [hfl] at z; exact z, ?_⟩
          have er2 := put (addC F Lx) (some (.ref a)) [(dd, xdO C0 v)] (.exn C0 x.frz) sF (.exn (G := G.su a dd C0) tr2 (.refl _))
          have e1' : σ[i]? = some (some (V.ref a)) := e1
          rw [set_self e1'] at er2
          exact p v H (addC F Lx) [] ((dd, xdO C0 v) :: Lb) s1.stand sF tr2 er2
      · exact p.elim
    | _ => exact p.elim
end
end En
set_option maxRecDepth 100000
set_option maxHeartbeats 1000000
namespace En
open PySem PySem.Spec PyProof.Rows L2 Gk
local macro_rules | `(tactic| walk_at "pm") => `(tactic| (simp only [List.perm_iff_count, List.count_append, List.count_cons, List.count_nil] at *; grind))
noncomputable def f1 (g : T → Option T) : List T → Fr
  | [a] => match g a.un with
    | some t => .ok t []
    | none => .bad
  | _ => .bad
noncomputable def f2 (g : T → T → Option T) : List T → Fr
  | [a, b] => match g a.un b.un with
    | some t => .ok t []
    | none => .bad
  | _ => .bad
section
variable {G : Ct}
theorem does1_f1 {g : T → Option T} {r : V → Hp → VK → Prop} (h : ∀ {F H La Lf x a t Q}, Sx H (La ++ Lf) F → Tr G.K G.cn F La x a → g a = some t → (∀ v H' F' L1, Sx H' (L1 ++ Lf) F' → Same F F' → Tr G.K G.cn F' L1 v t → Q v H') → r x H Q) : Does1 G r (f1 g) := by
  rintro x H Q E ⟨F, L, Lf, ts, s, tr, ln, p⟩
  cases tr with
  | @cons _ _ a _ _ L1 L2 ta tb pp =>
    cases tb
    unfold f1 at p
    dsimp only at p
    cases e : g a.un with
    | none => rw [e] at p; exact p.elim
    | some t =>
      rw [e] at p
      refine h (s.perm (M := L1 ++ Lf) (by walk_at "pm")) (un_tr ta) e fun v H' F' L1 s' sm tr => ?_
      exact p v H' F' L1 [] s' sm tr .nil
theorem does2_f2 {g : T → T → Option T} {r : R2} (h : ∀ {F H La Lb Lf x y a b t Q}, Sx H (La ++ (Lb ++ Lf)) F → Tr G.K G.cn F La x a → Tr G.K G.cn F Lb y b → g a b = some t → (∀ v H' F' L1, Sx H' (L1 ++ Lf) F' → Same F F' → Tr G.K G.cn F' L1 v t → Q v H') → r x y H Q) : Does2 G r (f2 g) := by
  rintro x y H Q E ⟨F, L, Lf, ts, s, tr, ln, p⟩
  cases tr with
  | @cons _ _ a _ _ L1 L2 ta tb pp =>
    cases tb with
    | @cons _ _ b _ _ M1 M2 tc td pq =>
      cases td
      unfold f2 at p
      dsimp only at p
      cases e : g a.un b.un with
      | none => rw [e] at p; exact p.elim
      | some t =>
        rw [e] at p
        refine h (s.perm (M := L1 ++ (M1 ++ Lf)) (by walk_at "pm")) (un_tr ta) (un_tr tc) e fun v H' F' L1 s' sm tr => ?_
        exact p v H' F' L1 [] s' sm tr .nil
/-- the same for calls by an argument list -/
theorem does_1 {mf : List T → Fr} {r : List V → Hp → VK → Prop} (h : Does1 G (fun x H Q => r [x] H Q) mf) : Does G [false] mf (fun vs H Q _ => r vs H Q) := fun vs H Q E q => by
  have hl := spE_len q
  match vs, hl with
  | [x], _ => exact h _ _ _ _ q
theorem does_2 {mf : List T → Fr} {r : List V → Hp → VK → Prop} (h : Does2 G (fun x y H Q => r [x, y] H Q) mf) : Does G [false, false] mf (fun vs H Q _ => r vs H Q) := fun vs H Q E q => by
  have hl := spE_len q
  match vs, hl with
  | [x, y], _ => exact h _ _ _ _ _ q
theorem doesm_0 {mf : List T → Fr} {r : V → List V → Hp → VK → Prop} (h : Does1 G (fun x H Q => r x [] H Q) mf) : Does G [false] mf (fun vs H Q _ => ∃ x xs, vs = x :: xs ∧ r x xs H Q) := fun vs H Q E q => by
  have hl := spE_len q
  match vs, hl with
  | [x], _ => exact ⟨x, [], rfl, h _ _ _ _ q⟩
theorem doesm_1 {mf : List T → Fr} {r : V → List V → Hp → VK → Prop} (h : Does2 G (fun x y H Q => r x [y] H Q) mf) : Does G [false, false] mf (fun vs H Q _ => ∃ x xs, vs = x :: xs ∧ r x xs H Q) := fun vs H Q E q => by
  have hl := spE_len q
  match vs, hl with
  | [x, y], _ => exact ⟨x, [y], rfl, h _ _ _ _ _ q⟩
end
section
variable {G : Ct} {F H : Hp} {La Lb Lf : List Cell} {x y : V} {a b t : T} {Q : VK}
theorem Sx.tail2 {A B C : List Cell} (s : Sx H (A ++ (B ++ C)) F) : Sx H C F := s.right.right
/-- a leaf as the answer -/
theorem leafQ {v : V} (s : Sx H Lf F) (tr : Tr G.K G.cn F [] v t) (q : ∀ v H' F' L1, Sx H' (L1 ++ Lf) F' → Same F F' → Tr G.K G.cn F' L1 v t → Q v H') : Q v H := q v H F [] s same_refl tr
theorem leafB {k : Bool} (s : Sx H Lf F) (q : ∀ v H' F' L1, Sx H' (L1 ++ Lf) F' → Same F F' → Tr G.K G.cn F' L1 v (.bl k) → Q v H') : Q (.bl k) H := leafQ s (.bl k) q
theorem leafI {k : Int} (s : Sx H Lf F) (q : ∀ v H' F' L1, Sx H' (L1 ++ Lf) F' → Same F F' → Tr G.K G.cn F' L1 v (.int k) → Q v H') : Q (.int k) H := leafQ s (.int k) q
theorem leafS {k : List Nat} (s : Sx H Lf F) (q : ∀ v H' F' L1, Sx H' (L1 ++ Lf) F' → Same F F' → Tr G.K G.cn F' L1 v (.str k) → Q v H') : Q (vt k) H := leafQ s (.str k) q
/-- a new list, a new tuple as the answer -/
theorem newL {xs : List V} {ts : List T} (s : Sx H (La ++ Lf) F) (ta : TrA G.K G.cn F La xs ts) (q : ∀ v H' F' L1, Sx H' (L1 ++ Lf) F' → Same F F' → Tr G.K G.cn F' L1 v (.lst true ts) → Q v H') : ∀ p, H p = none → Q (.ref p) (upd H p (.lst xs)) := fun p hp =>
  q (.ref p) _ F ((p, .lst xs) :: La) (s.new hp _) same_refl (.lstO ta (.refl _))
theorem newT {xs : List V} {ts : List T} (s : Sx H (La ++ Lf) F) (ta : TrA G.K G.cn F La xs ts) (q : ∀ v H' F' L1, Sx H' (L1 ++ Lf) F' → Same F F' → Tr G.K G.cn F' L1 v (.tup ts) → Q v H') : ∀ p, H p = none → Q (.ref p) (upd H p (.tup xs)) := fun p hp => by
  have s1 : Sx (upd H p (.tup xs)) ([(p, .tup xs)] ++ (La ++ Lf)) F := s.new hp _
  have sF := s1.addC_same
  exact q (.ref p) _ _ La s1.stand sF (.tup (.inl (.inl (s1.addC_mem List.mem_cons_self))) (ta.mono sF))
end
noncomputable def addT : T → T → Option T
  | .int i, .int j => some (.int (i + j))
  | .str s, .str u => if s.length + u.length ≤ lim then some (.str (s ++ u)) else none
  | .lst _ ts, .lst _ us => if ts.length + us.length ≤ lim then some (.lst true (ts ++ us)) else none
  | .tup ts, .tup us => if ts.length + us.length ≤ lim then some (.tup (ts ++ us)) else none
  | _, _ => none
noncomputable def subT : T → T → Option T
  | .int i, .int j => some (.int (i - j))
  | _, _ => none
noncomputable def smallI (i : Int) : Prop := -(2 ^ 64) < i ∧ i < 2 ^ 64
noncomputable instance (i : Int) : Decidable (smallI i) := inferInstanceAs (Decidable (_ ∧ _))
noncomputable def mulT : T → T → Option T
  | .int i, .int j => if smallI i ∨ smallI j then some (.int (i * j)) else none
  | .lst _ ts, .int k => if k < 1000 ∧ -1000 < k ∧ ts.length ≤ 1000 ∧ ts.all (fun t => t.frz.fresh) = true then some (.lst true (List.replicate k.toNat (ts.map T.frz)).flatten) else none
  | _, _ => none
noncomputable def modT : T → T → Option T
  | .int i, .int j => if 0 < j then some (.int (i % j)) else none
  | _, _ => none
noncomputable def divT : T → T → Option T
  | .int i, .int j => if 0 < j ∧ j < 2 ^ 200 then some (.int (i / j)) else none
  | _, _ => none
noncomputable def powT : T → T → Option T
  | .int i, .int j => if 0 ≤ j ∧ j ≤ 1000000 ∧ i.natAbs < 2 ^ 64 then some (.int (i ^ j.toNat)) else none
  | _, _ => none
noncomputable def negT : T → Option T
  | .int i => some (.int (-i))
  | _ => none
noncomputable def ltT : T → T → Option T
  | .int i, .int j => some (.bl (decide (i < j)))
  | .str s, .str u => some (.bl (decide (s < u)))
  | _, _ => none
noncomputable def leT : T → T → Option T
  | .int i, .int j => some (.bl (decide (i ≤ j)))
  | _, _ => none
noncomputable def gtT : T → T → Option T
  | .int i, .int j => some (.bl (decide (j < i)))
  | _, _ => none
noncomputable def T.isNon : T → Option Bool
  | .non => some true
  | .unb => none
  | .exn _ _ => none
  | .ty _ => some false
  | .atv _ _ => none
  | .ptr _ _ => none
  | _ => some false
noncomputable def isT : T → T → Option T
  | a, .non => a.isNon.map .bl
  | _, _ => none
noncomputable def isnT : T → T → Option T
  | a, .non => a.isNon.map fun b => .bl (!b)
  | _, _ => none
mutual
/-- what is shown -/
noncomputable def T.data : T → Option PyData
  | .non => some .none
  | .bl b => some (.bool b)
  | .int i => some (.int i)
  | .str s => some (.str (tx s))
  | .lst _ ts => (T.dataA ts).map .list
  | .tup ts => (T.dataA ts).map .tuple
  | .dct _ ks ts => (T.dataA ts).map fun ds => .dict ((ks.map fun k => match k with | .inl i => PyData.int i | .inr s => PyData.str (tx s)).zip ds)
  | .sq ns => some (.list (ns.map .int))
  | .atv _ t => t.data
  | _ => none
noncomputable def T.dataA : List T → Option (List PyData)
  | [] => some []
  | t :: ts => match t.data, T.dataA ts with
    | some d, some ds => some (d :: ds)
    | _, _ => none
end
mutual
noncomputable def noD : PyData → Bool
  | .list ds => noDA ds
  | .tuple ds => noDA ds
  | .dict _ => false
  | _ => true
noncomputable def noDA : List PyData → Bool
  | [] => true
  | d :: ds => noD d && noDA ds
end
noncomputable def eqB (a b : T) : Option Bool := match a.data, b.data with
  | some d, some e => if noD d && noD e && SeqAt.shaped d && SeqAt.shaped e then some (PyData.eqv d e) else none
  | _, _ => none
noncomputable def scalB : T → T → Option Bool
  | .int i, .int j => some (decide (i = j))
  | .str i, .str j => some (decide (i = j))
  | .bl i, .bl j => some (decide (i = j))
  | a, b => eqB a b
noncomputable def eqT (a b : T) : Option T := (scalB a b).map .bl
noncomputable def neT (a b : T) : Option T := (scalB a b).map fun k => .bl (!k)
noncomputable def T.sc : T → Option V
  | .non => some .non
  | .bl b => some (.bl b)
  | .int i => some (.int i)
  | .str s => some (vt s)
  | _ => none
noncomputable def scs : List T → Option (List V)
  | [] => some []
  | t :: ts => match t.sc, scs ts with
    | some v, some vs => some (v :: vs)
    | _, _ => none
noncomputable def keyT : T → Option Ky
  | .int i => some (.inl i)
  | .str s => some (.inr s)
  | _ => none
noncomputable def memL (a : T) (ts : List T) : Option Bool := match a.sc, scs ts with
  | some v, some vs => some (inV v vs)
  | _, _ => none
noncomputable def inB : T → T → Option Bool
  | .str [c], .str s => some (decide (c ∈ s))
  | a, .lst _ ts => memL a ts
  | a, .tup ts => memL a ts
  | a, .dct _ ks _ => (keyT a).map fun k => ks.any fun c => decide (c = k)
  | _, _ => none
noncomputable def inT (a b : T) : Option T := (inB a b).map .bl
noncomputable def lookK (k : Ky) : List Ky → List T → Option T
  | c :: ks, t :: ts => if c = k then some t else lookK k ks ts
  | _, _ => none
noncomputable def ixT : T → T → Option T
  | .lst _ ts, .int i => atI ts i
  | .tup ts, .int i => atI ts i
  | .sq ns, .int i => (atI ns i).map .int
  | .str s, .int i => if s.length ≤ lim then (atI s i).map fun c => .str [c] else none
  | .dct _ ks ts, a => match keyT a with
    | some k => lookK k ks ts
    | none => none
  | _, _ => none
noncomputable def cutA {α : Type} (xs : List α) (lo hi : Option Int) : List α := (xs.drop (HT.sIx xs.length 0 lo)).take (HT.sIx xs.length xs.length hi - HT.sIx xs.length 0 lo)
noncomputable def slT (lo hi : Option Int) : T → Option T
  | .str s => if s.length ≤ lim then some (.str (cutA s lo hi)) else none
  | .lst _ ts => some (.lst true (cutA ts lo hi))
  | .tup ts => some (.tup (cutA ts lo hi))
  | _ => none
noncomputable def lenT : T → Option T
  | .str s => if s.length ≤ lim then some (.int s.length) else none
  | .lst _ ts => some (.int ts.length)
  | .tup ts => some (.int ts.length)
  | .dct _ ks _ => some (.int ks.length)
  | .sq ns => some (.int ns.length)
  | _ => none
noncomputable def maxT : T → T → Option T
  | .int i, .int j => some (.int (max i j))
  | _, _ => none
noncomputable def minT : T → T → Option T
  | .int i, .int j => some (.int (min i j))
  | _, _ => none
section
variable {G : Ct}
theorem d_add : Does2 G (gAdd G.K) (f2 addT) := does2_f2 fun {F H La Lb Lf x y a b t Q} s ta tb e q => by
  unfold addT at e
  split at e
  · cases e; rw [ta.intI, tb.intI]; exact w_addI (leafI s.tail2 q)
  · split at e
    · rename_i h
      cases e; rw [ta.strI, tb.strI]; exact w_addX h (leafS s.tail2 q)
    · cases e
  · split at e
    · rename_i h
      cases e
      obtain ⟨p, xs, D, L', rfl, e1, t1, q1⟩ := ta.lst s
      obtain ⟨p2, ys, D2, L2', rfl, e2, t2, q2⟩ := tb.lst s.right
      refine .inr (.inr (.inl ⟨p, p2, xs, ys, rfl, rfl, e1, e2, by rw [t1.len, t2.len]; exact Nat.le_trans h lim_le, ?_⟩))
      exact newL (La := L' ++ L2') ((s.perm (M := (D ++ D2) ++ ((L' ++ L2') ++ Lf)) (by walk_at "pm")).right) (TrA.app t2 t1) q
    · cases e
  · split at e
    · rename_i h
      cases e
      obtain ⟨p, xs, rfl, e1, t1⟩ := ta.tupI s
      obtain ⟨p2, ys, rfl, e2, t2⟩ := tb.tupI s.right
      refine .inr (.inr (.inr ⟨p, p2, xs, ys, rfl, rfl, e1, e2, by rw [t1.len, t2.len]; exact Nat.le_trans h lim_le, ?_⟩))
      refine ⟨fun h0 => ?_, fun _ h0 => ?_, fun _ _ => ?_⟩
      · subst h0; cases t1; exact q _ H F _ (s.right) same_refl tb
      · subst h0; cases t2
        rw [List.append_nil] at q
        exact q _ H F _ s same_refl ta
      · exact newT (La := La ++ Lb) (s.perm (by walk_at "pm")) (TrA.app t2 t1) q
    · cases e
  · cases e
theorem d_sub : Does2 G gMinus (f2 subT) := does2_f2 fun {F H La Lb Lf x y a b t Q} s ta tb e q => by
  unfold subT at e
  split at e
  · cases e; rw [ta.intI, tb.intI]; exact ⟨_, _, rfl, rfl, leafI s.tail2 q⟩
  · cases e
theorem d_mod : Does2 G gMod (f2 modT) := does2_f2 fun {F H La Lb Lf x y a b t Q} s ta tb e q => by
  unfold modT at e
  split at e
  · split at e
    · rename_i h
      cases e; rw [ta.intI, tb.intI]; exact w_modI h (leafI s.tail2 q)
    · cases e
  · cases e
theorem d_div : Does2 G gDiv (f2 divT) := does2_f2 fun {F H La Lb Lf x y a b t Q} s ta tb e q => by
  unfold divT at e
  split at e
  · split at e
    · rename_i h
      cases e; rw [ta.intI, tb.intI]; exact w_div h.1 h.2 (leafI s.tail2 q)
    · cases e
  · cases e
theorem d_lt : Does2 G (gLt G.K) (f2 ltT) := does2_f2 fun {F H La Lb Lf x y a b t Q} s ta tb e q => by
  unfold ltT at e
  split at e
  · cases e; rw [ta.intI, tb.intI]; exact w_ltI (leafB s.tail2 q)
  · cases e; rw [ta.strI, tb.strI]; exact w_ltS (leafB s.tail2 q)
  · cases e
theorem d_le : Does2 G (gLe G.K) (f2 leT) := does2_f2 fun {F H La Lb Lf x y a b t Q} s ta tb e q => by
  unfold leT at e
  split at e
  · cases e; rw [ta.intI, tb.intI]; exact w_leI (leafB s.tail2 q)
  · cases e
theorem d_gt : Does2 G (gGt G.K) (f2 gtT) := does2_f2 fun {F H La Lb Lf x y a b t Q} s ta tb e q => by
  unfold gtT at e
  split at e
  · cases e; rw [ta.intI, tb.intI]; exact w_gtI (leafB s.tail2 q)
  · cases e
theorem d_neg : Does1 G gNeg (f1 negT) := does1_f1 fun {F H La Lf x a t Q} s ta e q => by
  unfold negT at e
  split at e
  · cases e; rw [ta.intI]; exact ⟨_, rfl, leafI s.right q⟩
  · cases e
theorem d_len : Does1 G (fun x H Q => gLen G.K [x] H Q) (f1 lenT) := does1_f1 fun {F H La Lf x a t Q} s ta e q => by
  unfold lenT at e
  split at e
  · split at e
    · rename_i h
      cases e; rw [ta.strI]; exact w_lenX h (leafI s.right q)
    · cases e
  · cases e
    obtain ⟨p, xs, D, L', rfl, e1, t1, q1⟩ := ta.lst s
    refine w_lenL (.inl (.inl e1)) ?_
    rw [t1.len]; exact leafI s.right q
  · cases e
    obtain ⟨p, xs, rfl, e1, t1⟩ := ta.tupI s
    refine w_lenT e1 ?_
    rw [t1.len]; exact leafI s.right q
  · cases e
    obtain ⟨p, kvs, D, L', rfl, e1, hk, t1, q1⟩ := ta.dctI s
    refine .inr ⟨p, kvs, rfl, e1, ?_⟩
    rename_i o ks ts
    have : kvs.length = ks.length := by have := congrArg List.length hk; simpa using this
    rw [this]; exact leafI s.right q
  · cases e
    cases ta with
    | @sq p ns h =>
      refine w_lenL (s.sm.seq h) ?_
      rw [List.length_map]; exact leafI s.right q
  · cases e
theorem d_pow : Does2 G (rI CPow fun i j => .int (i ^ j.toNat)) (f2 powT) := does2_f2 fun {F H La Lb Lf x y a b t Q} s ta tb e q => by
  unfold powT at e
  split at e
  · split at e
    · rename_i h
      cases e; rw [ta.intI, tb.intI]; exact w_powI h (leafI s.tail2 q)
    · cases e
  · cases e
theorem Tr.lst0 {F : Hp} {L : List Cell} {v : V} {o : Bool} {ts : List T} {K : PySem.W.Frag} {cn : Str → Addr} (h : Tr K cn F L v (.lst o ts)) {H : Hp} {Lf : List Cell} (s : Sx H (L ++ Lf) F) :
    ∃ a xs, v = .ref a ∧ H a = some (.lst xs) ∧ ∃ F2, Sx H Lf F2 ∧ Same F F2 ∧ TrA K cn F2 [] xs (T.frzA ts) := by
  obtain ⟨a, xs, D, L', rfl, e1, t1, q1⟩ := h.lst s
  have sF := s.addC_same
  exact ⟨a, xs, rfl, e1, _, s.stand, sF, (t1.mono sF).frz fun c hc => s.addC_mem (q1.mem_iff.mpr (List.mem_append_right _ hc))⟩
theorem TrA.rep {K : PySem.W.Frag} {cn : Str → Addr} {F : Hp} {xs : List V} {ts : List T} (h : TrA K cn F [] xs ts) : ∀ n : Nat, TrA K cn F [] (List.replicate n xs).flatten (List.replicate n ts).flatten
  | 0 => .nil
  | n + 1 => by rw [List.replicate_succ, List.replicate_succ, List.flatten_cons, List.flatten_cons]; exact TrA.app (TrA.rep h n) h
theorem d_mul : Does2 G (gMul G.K) (f2 mulT) := does2_f2 fun {F H La Lb Lf x y a b t Q} s ta tb e q => by
  unfold mulT at e
  split at e
  · split at e
    · rename_i h
      cases e; rw [ta.intI, tb.intI]; exact w_mulI h (leafI s.tail2 q)
    · cases e
  · split at e
    · rename_i o ts k h
      cases e
      rw [tb.intI]
      obtain ⟨p, xs, rfl, e1, F2, s2, sm, t2⟩ := ta.lst0 s
      rw [frzA_map] at t2
      have lx := t2.len
      rw [List.length_map] at lx
      refine .inr ⟨p, k, xs, rfl, rfl, e1, by omega, by omega, ?_, ?_⟩
      · have : xs.length * k.toNat ≤ 1000 * 1000 := Nat.mul_le_mul (by omega) (by omega)
        exact Nat.le_trans this (by rw [sizeLine_eq]; decide)
      · exact newL (La := []) s2.right (TrA.rep t2 _) fun v H' F' L1 s' sm' tr => q v H' F' L1 s' (same_trans sm sm') tr
    · cases e
  · cases e
theorem isNon_ok {F : Hp} {L : List Cell} {v : V} {k : Bool} (h : Tr G.K G.cn F L v a) (e : T.isNon a = some k) : decide (v = .non) = k := by
  cases h <;> simp [T.isNon] at e <;> subst e <;> simp
theorem d_is : Does2 G gIs (f2 isT) := does2_f2 fun {F H La Lb Lf x y a b t Q} s ta tb e q => by
  unfold isT at e
  split at e
  · simp only [Option.map_eq_some_iff] at e
    obtain ⟨k, h, rfl⟩ := e
    rw [tb.nonI]
    exact ⟨rfl, by rw [isNon_ok ta h]; exact leafB s.tail2 q⟩
  · cases e
theorem d_isn : Does2 G gIsNot (f2 isnT) := does2_f2 fun {F H La Lb Lf x y a b t Q} s ta tb e q => by
  unfold isnT at e
  split at e
  · simp only [Option.map_eq_some_iff] at e
    obtain ⟨k, h, rfl⟩ := e
    rw [tb.nonI]
    exact ⟨rfl, by rw [isNon_ok ta h]; exact leafB s.tail2 q⟩
  · cases e
/-- data -/
theorem dpA_ints {K : PySem.W.Frag} {H : Hp} : ∀ {ns : List Int}, DpAll K H (ns.map .int) (ns.map .int)
  | [] => .nil
  | n :: _ => .cons (.int n) dpA_ints
noncomputable def TrHp (K : PySem.W.Frag) (cn : Str → Addr) (H F : Hp) (L : List Cell) : Prop := Smh F H ∧ ∀ c ∈ L, H c.1 = some c.2
theorem TrHp.sub {K : PySem.W.Frag} {cn : Str → Addr} {H F : Hp} {L L1 L2 : List Cell} (h : TrHp K cn H F L) (p : L.Perm (L1 ++ L2)) : TrHp K cn H F L1 ∧ TrHp K cn H F L2 := ⟨⟨h.1, (sub_mem p h.2).1⟩, ⟨h.1, (sub_mem p h.2).2⟩⟩
theorem same_T {K : PySem.W.Frag} {H F : Hp} {a : Addr} {xs : List V} (e : Smh F H) (h : SqT K F a xs) : SqT K H a xs := e.seqT h
mutual
theorem dp_of {K : PySem.W.Frag} {cn : Str → Addr} {H F : Hp} : ∀ (t : T) {L : List Cell} {v : V} {d : PyData}, Tr K cn F L v t → TrHp K cn H F L → t.data = some d → noD d = true → Dp K H v d
  | .non, _, _, _, h, _, e, _ => by cases h; cases e; exact .non
  | .bl b, _, _, _, h, _, e, _ => by cases h; cases e; exact .bl b
  | .int b, _, _, _, h, _, e, _ => by cases h; cases e; exact .int b
  | .str b, _, _, _, h, _, e, _ => by cases h; cases e; exact .str _
  | .sq ns, _, _, _, h, hp, e, _ => by
    cases h with
    | sq _ h =>
      cases e
      exact .lst (hp.1.seq h) dpA_ints
  | .lst o ts, _, _, d, h, hp, e, n => by
    simp only [T.data, Option.map_eq_some_iff] at e
    obtain ⟨ds, e, rfl⟩ := e
    cases h with
    | lstF ea ta => exact .lst (.inl (.inl (hp.1 _ _ ea))) (dpA_of ts ta hp e n)
    | @lstO a xs _ _ _ ta p =>
      have hp' := TrHp.sub (K := K) (cn := cn) hp (L1 := [(a, .lst xs)]) p
      exact .lst (.inl (.inl (hp'.1.2 (a, .lst xs) List.mem_cons_self))) (dpA_of ts ta hp'.2 e n)
  | .tup ts, _, _, d, h, hp, e, n => by
    simp only [T.data, Option.map_eq_some_iff] at e
    obtain ⟨ds, e, rfl⟩ := e
    cases h with
    | tup ea ta => exact .tup (same_T hp.1 ea) (dpA_of ts ta hp e n)
  | .dct o ks ts, _, _, d, h, hp, e, n => by
    simp only [T.data, Option.map_eq_some_iff] at e
    obtain ⟨ds, e, rfl⟩ := e
    cases n
  | .atv w t, _, _, d, h, hp, e, n => by
    cases h with
    | atv h p => exact dp_of t h ⟨hp.1, fun c hc => hp.2 c (p.mem_iff.mpr hc)⟩ e n
  | .unb, _, _, _, h, _, e, _ => by cases e
  | .exn _ _, _, _, _, h, _, e, _ => by cases e
  | .ty _, _, _, _, h, _, e, _ => by cases e
  | .cls _, _, _, _, h, _, e, _ => by cases e
  | .ins _ _ _ _, _, _, _, h, _, e, _ => by cases e
theorem dpA_of {K : PySem.W.Frag} {cn : Str → Addr} {H F : Hp} : ∀ (ts : List T) {L : List Cell} {vs : List V} {ds : List PyData}, TrA K cn F L vs ts → TrHp K cn H F L → T.dataA ts = some ds → noDA ds = true → DpAll K H vs ds
  | [], _, _, _, h, _, e, _ => by cases h; cases e; exact .nil
  | t :: ts, _, _, ds, h, hp, e, n => by
    cases h with
    | cons a b p =>
      simp only [T.dataA] at e
      cases e1 : t.data with
      | none => rw [e1] at e; cases e
      | some d =>
        cases e2 : T.dataA ts with
        | none => rw [e1, e2] at e; cases e
        | some ds' =>
          rw [e1, e2] at e; cases e
          have n' : (noD d && noDA ds') = true := n
          rw [Bool.and_eq_true] at n'
          have hp' := TrHp.sub (K := K) (cn := cn) hp p
          exact .cons (dp_of t a hp'.1 e1 n'.1) (dpA_of ts b hp'.2 e2 n'.2)
end
theorem hp1 {F H : Hp} {La Lf : List Cell} (s : Sx H (La ++ Lf) F) : TrHp G.K G.cn H F La := ⟨s.sm, fun c hc => (s.ce c (List.mem_append_left _ hc)).1⟩
theorem scal_ok {F H : Hp} {La Lb Lf : List Cell} {x y : V} {a b : T} {k : Bool} (s : Sx H (La ++ (Lb ++ Lf)) F) (ta : Tr G.K G.cn F La x a) (tb : Tr G.K G.cn F Lb y b) (e : scalB a b = some k) :
    (scal x y = true ∧ decide (x = y) = k) ∨ ∃ d e', Dp G.K H x d ∧ Dp G.K H y e' ∧ SeqAt.shaped d = true ∧ SeqAt.shaped e' = true ∧ PyData.eqv d e' = k := by
  unfold scalB at e
  split at e
  · rename_i i j
    cases e; rw [ta.intI, tb.intI]; exact .inl ⟨rfl, by by_cases h : i = j <;> simp [h]⟩
  · rename_i i j
    cases e; rw [ta.strI, tb.strI]; exact .inl ⟨rfl, by
      have := tx_eq (a := i) (b := j)
      rw [← this]
      by_cases h : tx i = tx j <;> simp [h]⟩
  · rename_i i j
    cases e; rw [ta.blI, tb.blI]; exact .inl ⟨rfl, by by_cases h : i = j <;> simp [h]⟩
  · unfold eqB at e
    cases e1 : a.data with
    | none => rw [e1] at e; cases e
    | some d =>
      cases e2 : b.data with
      | none => rw [e1, e2] at e; cases e
      | some d' =>
        rw [e1, e2] at e
        dsimp only at e
        split at e
        · rename_i h
          cases e
          simp only [Bool.and_eq_true] at h
          exact .inr ⟨d, d', dp_of a ta (hp1 s) e1 h.1.1.1, dp_of b tb (hp1 s.right) e2 h.1.1.2, h.1.2, h.2, rfl⟩
        · cases e
theorem d_eq : Does2 G (gEq G.K) (f2 eqT) := does2_f2 fun {F H La Lb Lf x y a b t Q} s ta tb e q => by
  simp only [eqT, Option.map_eq_some_iff] at e
  obtain ⟨k, e, rfl⟩ := e
  rcases scal_ok s ta tb e with ⟨h1, h2⟩ | ⟨d, e', h1, h2, h3, h4, h5⟩
  · exact .inl ⟨h1, by rw [h2]; exact leafB s.tail2 q⟩
  · exact .inr ⟨d, e', h1, h2, h3, h4, by rw [h5]; exact leafB s.tail2 q⟩
theorem d_ne : Does2 G (gNe G.K) (f2 neT) := does2_f2 fun {F H La Lb Lf x y a b t Q} s ta tb e q => by
  simp only [neT, Option.map_eq_some_iff] at e
  obtain ⟨k, e, rfl⟩ := e
  rcases scal_ok s ta tb e with ⟨h1, h2⟩ | ⟨d, e', h1, h2, h3, h4, h5⟩
  · exact .inl ⟨h1, by rw [h2]; exact leafB s.tail2 q⟩
  · exact .inr ⟨d, e', h1, h2, h3, h4, by rw [h5]; exact leafB s.tail2 q⟩
theorem sc_ok {F : Hp} {L : List Cell} {v w : V} {a : T} (h : Tr G.K G.cn F L v a) (e : a.sc = some w) : v = w ∧ flatV w = true := by
  cases h <;> simp [T.sc] at e <;> subst e <;> exact ⟨rfl, rfl⟩
theorem scs_ok {F : Hp} : ∀ {L : List Cell} {vs ws : List V} {ts : List T}, TrA G.K G.cn F L vs ts → scs ts = some ws → vs = ws ∧ ws.all flatV = true
  | _, _, _, _, .nil, e => by cases e; exact ⟨rfl, rfl⟩
  | _, _, ws, t :: ts, .cons a b p, e => by
    simp only [scs] at e
    cases e1 : t.sc with
    | none => rw [e1] at e; cases e
    | some d =>
      cases e2 : scs ts with
      | none => rw [e1, e2] at e; cases e
      | some ds =>
        rw [e1, e2] at e; cases e
        obtain ⟨rfl, h1⟩ := sc_ok a e1
        obtain ⟨rfl, h2⟩ := scs_ok b e2
        exact ⟨rfl, by simp [h1, h2]⟩
theorem key_ok {F : Hp} {L : List Cell} {v : V} {a : T} {k : Ky} (h : Tr G.K G.cn F L v a) (e : keyT a = some k) : v = kV (kyK k) := by
  cases h <;> simp [keyT] at e <;> subst e <;> rfl
theorem kyK_inj {a b : Ky} (h : kyK a = kyK b) : a = b := by
  cases a <;> cases b <;> simp [kyK] at h
  · rw [h]
  · rw [h]
theorem valV_some : ∀ {kvs : List (Key × V)} {ks : List Ky} {k : Ky}, kvs.map (·.1) = ks.map kyK → (valV kvs (kyK k)).isSome = ks.any fun c => decide (c = k)
  | [], [], k, _ => rfl
  | [], _ :: _, k, h => by simp at h
  | _ :: _, [], k, h => by simp at h
  | (c, v) :: kvs, d :: ks, k, h => by
    simp only [List.map_cons, List.cons.injEq] at h
    have ih := valV_some (k := k) h.2
    unfold valV at ih ⊢
    rw [List.find?_cons, List.any_cons]
    by_cases hk : d = k
    · subst hk; simp [h.1]
    · have : ¬ c = kyK k := fun z => hk (kyK_inj (h.1.symm.trans z))
      simp only [this, hk, decide_false, Bool.false_or]
      exact ih
theorem inB_ok {F H : Hp} {La Lb Lf : List Cell} {x y : V} {a b : T} {k : Bool} (s : Sx H (La ++ (Lb ++ Lf)) F) (ta : Tr G.K G.cn F La x a) (tb : Tr G.K G.cn F Lb y b) (e : inB a b = some k) :
    (∃ (c : Nat) (z : Str), x = .str ⟨#[c]⟩ ∧ y = .str z ∧ decide (c ∈ z.cps.toList) = k) ∨ (∃ p xs, y = .ref p ∧ (SqL G.K H p xs ∨ SqT G.K H p xs) ∧ flatV x = true ∧ xs.all flatV = true ∧ inV x xs = k) ∨ (∃ ad o, y = .ref ad ∧ DGet H ad x o ∧ o.isSome = k) := by
  unfold inB at e
  have mem : ∀ {ts : List T} {L : List Cell} {vs : List V}, memL a ts = some k → TrA G.K G.cn F L vs ts → flatV x = true ∧ vs.all flatV = true ∧ inV x vs = k := by
    intro ts L vs e tv
    unfold memL at e
    cases e1 : a.sc with
    | none => rw [e1] at e; cases e
    | some v =>
      cases e2 : scs ts with
      | none => rw [e1, e2] at e; cases e
      | some vs =>
        rw [e1, e2] at e; cases e
        obtain ⟨rfl, h1⟩ := sc_ok ta e1
        obtain ⟨rfl, h2⟩ := scs_ok tv e2
        exact ⟨h1, h2, rfl⟩
  split at e
  · rename_i c z
    cases e
    rw [ta.strI, tb.strI]
    exact .inl ⟨c, tx z, rfl, rfl, rfl⟩
  · obtain ⟨p, xs, D, L', rfl, e1, t1, q1⟩ := tb.lst s.right
    obtain ⟨h1, h2, h3⟩ := mem e t1
    exact .inr (.inl ⟨p, xs, rfl, .inl (.inl (.inl e1)), h1, h2, h3⟩)
  · obtain ⟨p, xs, rfl, e1, t1⟩ := tb.tupI s.right
    obtain ⟨h1, h2, h3⟩ := mem e t1
    exact .inr (.inl ⟨p, xs, rfl, .inr e1, h1, h2, h3⟩)
  · simp only [Option.map_eq_some_iff] at e
    obtain ⟨kk, e, rfl⟩ := e
    obtain ⟨p, kvs, D, L', rfl, e1, hk, t1, q1⟩ := tb.dctI s.right
    exact .inr (.inr ⟨p, _, rfl, .inl ⟨kvs, kyK kk, e1, key_ok ta e, rfl⟩, valV_some hk⟩)
  · cases e
theorem d_in : Does2 G (gIn G.K) (f2 inT) := does2_f2 fun {F H La Lb Lf x y a b t Q} s ta tb e q => by
  simp only [inT, Option.map_eq_some_iff] at e
  obtain ⟨k, e, rfl⟩ := e
  rcases inB_ok s ta tb e with ⟨c, z, h1, h2, h3⟩ | ⟨p, xs, h1, h2, h3, h4, h5⟩ | ⟨p, o, h1, h2, h3⟩
  · exact .inl ⟨c, z, h1, h2, by rw [h3]; exact leafB s.tail2 q⟩
  · exact .inr (.inl ⟨p, xs, h1, h2, h3, h4, by simp only [Bool.false_eq_true, if_false, h5]; exact leafB s.tail2 q⟩)
  · exact .inr (.inr ⟨p, o, h1, h2, by rw [h3]; exact leafB s.tail2 q⟩)
theorem atI_get {α : Type} {xs : List α} {i : Int} {x : α} (h : atI xs i = some x) : ∃ k, ixN xs.length i = some k ∧ xs[k]? = some x := by
  unfold atI at h
  cases e : ixN xs.length i with
  | none => rw [e] at h; cases h
  | some k => rw [e] at h; exact ⟨k, rfl, h⟩
theorem TrA.at' {K : PySem.W.Frag} {cn : Str → Addr} {F : Hp} {L : List Cell} {vs : List V} {ts : List T} {t : T} {i : Int} (h : TrA K cn F L vs ts) (e : atI ts i = some t) : ∃ v L1 L2, atI vs i = some v ∧ Tr K cn F L1 v t ∧ L.Perm (L1 ++ L2) := by
  obtain ⟨k, h1, h2⟩ := atI_get e
  obtain ⟨v, L1, L2, e1, tr, p⟩ := h.get h2
  refine ⟨v, L1, L2, ?_, tr, p⟩
  unfold atI; rw [h.len, h1]; exact e1
theorem lookK_ok {K : PySem.W.Frag} {cn : Str → Addr} {F : Hp} {k : Ky} {t : T} : ∀ {kvs : List (Key × V)} {ks : List Ky} {ts : List T} {L : List Cell}, kvs.map (·.1) = ks.map kyK → TrA K cn F L (kvs.map (·.2)) ts → lookK k ks ts = some t → ∃ v L1 L2, valV kvs (kyK k) = some v ∧ Tr K cn F L1 v t ∧ L.Perm (L1 ++ L2)
  | [], [], ts, L, _, _, e => by simp [lookK] at e
  | [], _ :: _, ts, L, h, _, e => by simp at h
  | _ :: _, [], ts, L, h, _, e => by simp at h
  | (c, v) :: kvs, d :: ks, [], L, h, ta, e => by cases ta
  | (c, v) :: kvs, d :: ks, t' :: ts, L, h, .cons (L1 := A) a b p, e => by
    simp only [List.map_cons, List.cons.injEq] at h
    simp only [lookK] at e
    unfold valV
    rw [List.find?_cons]
    by_cases hk : d = k
    · subst hk
      rw [if_pos rfl] at e; cases e
      simp only [h.1, decide_true]
      exact ⟨v, A, _, rfl, a, p⟩
    · rw [if_neg hk] at e
      have : ¬ c = kyK k := fun z => hk (kyK_inj (h.1.symm.trans z))
      simp only [this, decide_false]
      obtain ⟨w, L1, L2, e1, tr, q⟩ := lookK_ok h.2 b e
      exact ⟨w, L1, A ++ L2, e1, tr, by walk_at "pm"⟩
theorem d_ix : Does2 G (gIx G.K) (f2 ixT) := does2_f2 fun {F H La Lb Lf x y a b t Q} s ta tb e q => by
  unfold ixT at e
  split at e
  · obtain ⟨p, xs, D, L', rfl, e1, t1, q1⟩ := ta.lst s
    rw [tb.intI]
    obtain ⟨v, L1, L2, e2, tr, q2⟩ := t1.at' e
    exact w_ixL (.inl (.inl e1)) e2 (q v H F L1 ((s.perm (M := (D ++ L2 ++ Lb) ++ (L1 ++ Lf)) (by walk_at "pm")).right) same_refl tr)
  · obtain ⟨p, xs, rfl, e1, t1⟩ := ta.tupI s
    rw [tb.intI]
    obtain ⟨v, L1, L2, e2, tr, q2⟩ := t1.at' e
    exact w_ixT e1 e2 (q v H F L1 ((s.perm (M := (L2 ++ Lb) ++ (L1 ++ Lf)) (by walk_at "pm")).right) same_refl tr)
  · simp only [Option.map_eq_some_iff] at e
    obtain ⟨n, e, rfl⟩ := e
    rw [tb.intI]
    cases ta with
    | sq _ h =>
      obtain ⟨k, h1, h2⟩ := atI_get e
      refine w_ixL (s.sm.seq h) (v := .int n) ?_ (leafI s.tail2 q)
      unfold atI; rw [List.length_map, h1]
      show (List.map V.int _)[k]? = _
      rw [List.getElem?_map, h2]; rfl
  · split at e
    · rename_i hl
      simp only [Option.map_eq_some_iff] at e
      obtain ⟨c, e, rfl⟩ := e
      rw [ta.strI, tb.intI]
      exact w_ixS (by rw [tx_len]; exact Nat.le_trans hl lim_le) e (leafS (k := [c]) s.tail2 q)
    · cases e
  · split at e
    · rename_i kk hk
      obtain ⟨p, kvs, D, L', rfl, e1, hks, t1, q1⟩ := ta.dctI s
      obtain ⟨v, L1, L2, e2, tr, q2⟩ := lookK_ok hks t1 e
      exact .inr ⟨p, v, rfl, .inl ⟨kvs, kyK kk, e1, key_ok tb hk, e2.symm⟩, q v H F L1 ((s.perm (M := (D ++ L2 ++ Lb) ++ (L1 ++ Lf)) (by walk_at "pm")).right) same_refl tr⟩
    · cases e
  · cases e
theorem TrA.drop {K : PySem.W.Frag} {cn : Str → Addr} {F : Hp} : ∀ (n : Nat) {L : List Cell} {vs : List V} {ts : List T}, TrA K cn F L vs ts → ∃ L1 D, L.Perm (L1 ++ D) ∧ TrA K cn F L1 (vs.drop n) (ts.drop n)
  | 0, L, _, _, h => ⟨L, [], by simp, h⟩
  | n + 1, _, _, _, .nil => ⟨[], [], by simp, .nil⟩
  | n + 1, _, _, _, .cons (L1 := A) a b p => by
    obtain ⟨L1, D, q, h⟩ := TrA.drop n b
    exact ⟨L1, A ++ D, by walk_at "pm", h⟩
theorem TrA.take {K : PySem.W.Frag} {cn : Str → Addr} {F : Hp} : ∀ (n : Nat) {L : List Cell} {vs : List V} {ts : List T}, TrA K cn F L vs ts → ∃ L1 D, L.Perm (L1 ++ D) ∧ TrA K cn F L1 (vs.take n) (ts.take n)
  | 0, L, _, _, h => ⟨[], L, by simp, .nil⟩
  | n + 1, _, _, _, .nil => ⟨[], [], by simp, .nil⟩
  | n + 1, _, _, _, .cons (L1 := A) a b p => by
    obtain ⟨L1, D, q, h⟩ := TrA.take n b
    exact ⟨A ++ L1, D, by walk_at "pm", .cons a h (.refl _)⟩
theorem d_sl (lo hi : Option Int) : Does1 G (fun x H Q => gSl G.K x lo hi H Q) (f1 (slT lo hi)) := does1_f1 fun {F H La Lf x a t Q} s ta e q => by
  unfold slT at e
  split at e
  · split at e
    · rename_i h
      cases e; rw [ta.strI]
      exact .inl ⟨_, rfl, by rw [tx_len]; exact Nat.le_trans h lim_le, leafS s.right q⟩
    · cases e
  · cases e
    obtain ⟨p, xs, D, L', rfl, e1, t1, q1⟩ := ta.lst s
    refine .inr (.inl ⟨p, xs, rfl, .inl (.inl e1), ?_⟩)
    unfold cutV cutA at *
    rw [← t1.len] at q
    obtain ⟨L1, D1, q2, t2⟩ := t1.drop (HT.sIx xs.length 0 lo)
    obtain ⟨L2, D2, q3, t3⟩ := t2.take (HT.sIx xs.length xs.length hi - HT.sIx xs.length 0 lo)
    exact newL (La := L2) ((s.perm (M := (D ++ D1 ++ D2) ++ (L2 ++ Lf)) (by walk_at "pm")).right) t3 q
  · cases e
    obtain ⟨p, xs, rfl, e1, t1⟩ := ta.tupI s
    refine .inr (.inr ⟨p, xs, rfl, e1, ?_, ?_⟩)
    · rintro ⟨h1, h2⟩
      have : ∀ us : List T, xs.length = us.length → cutA us lo hi = us := by
        intro us hl
        unfold cutA; rw [← hl, h1, h2]; simp
        exact List.take_of_length_le (by rw [hl]; exact Nat.le_refl _)
      rw [this _ t1.len] at q
      exact q _ _ _ _ s same_refl ta
    · intro _
      unfold cutV cutA at *
      rw [← t1.len] at q
      obtain ⟨L1, D1, q2, t2⟩ := t1.drop (HT.sIx xs.length 0 lo)
      obtain ⟨L2, D2, q3, t3⟩ := t2.take (HT.sIx xs.length xs.length hi - HT.sIx xs.length 0 lo)
      exact newT (La := L2) ((s.perm (M := (D1 ++ D2) ++ (L2 ++ Lf)) (by walk_at "pm")).right) t3 q
  · cases e
theorem d_max : Does2 G (fun x y H Q => gMax [x, y] H Q) (f2 maxT) := does2_f2 fun {F H La Lb Lf x y a b t Q} s ta tb e q => by
  unfold maxT at e
  split at e
  · cases e; rw [ta.intI, tb.intI]; exact ⟨_, _, rfl, leafI s.tail2 q⟩
  · cases e
theorem d_min : Does2 G (fun x y H Q => gMin [x, y] H Q) (f2 minT) := does2_f2 fun {F H La Lb Lf x y a b t Q} s ta tb e q => by
  unfold minT at e
  split at e
  · cases e; rw [ta.intI, tb.intI]; exact ⟨_, _, rfl, leafI s.tail2 q⟩
  · cases e
/-- repr -/
noncomputable def reprT (a : T) : Option T := match a.data with
  | some d => if d.showable = true ∧ d.depth ≤ 40 ∧ d.shown.length ≤ sizeLine then some (.str d.shown.cps.toList) else none
  | none => none
theorem ddA_ints {K : PySem.W.Frag} {H : Hp} : ∀ {ns : List Int}, DdA K H (ns.map .int) (ns.map .int)
  | [] => .nil
  | n :: _ => .cons (.int n) ddA_ints
theorem ddK_of {K : PySem.W.Frag} {H : Hp} : ∀ {kvs : List (Key × V)} {ks : List Ky}, kvs.map (·.1) = ks.map kyK → DdA K H (kvs.map fun p => kV p.1) (ks.map fun k => match k with | .inl i => PyData.int i | .inr s => PyData.str (tx s))
  | [], [], _ => .nil
  | [], _ :: _, h => by simp at h
  | _ :: _, [], h => by simp at h
  | (c, v) :: kvs, k :: ks, h => by
    simp only [List.map_cons, List.cons.injEq] at h
    refine .cons ?_ (ddK_of h.2)
    rw [h.1]
    cases k with
    | inl i => exact .int i
    | inr s => exact .str _
mutual
theorem dd_of {K : PySem.W.Frag} {cn : Str → Addr} {H F : Hp} : ∀ (t : T) {L : List Cell} {v : V} {d : PyData}, Tr K cn F L v t → TrHp K cn H F L → t.data = some d → Dd K H v d
  | .non, _, _, _, h, _, e => by cases h; cases e; exact .non
  | .bl b, _, _, _, h, _, e => by cases h; cases e; exact .bl b
  | .int b, _, _, _, h, _, e => by cases h; cases e; exact .int b
  | .str b, _, _, _, h, _, e => by cases h; cases e; exact .str _
  | .sq ns, _, _, _, h, hp, e => by
    cases h with
    | sq _ h =>
      cases e
      exact .lst (hp.1.seq h) ddA_ints
  | .lst o ts, _, _, d, h, hp, e => by
    simp only [T.data, Option.map_eq_some_iff] at e
    obtain ⟨ds, e, rfl⟩ := e
    cases h with
    | lstF ea ta => exact .lst (.inl (.inl (hp.1 _ _ ea))) (ddA_of ts ta hp e)
    | @lstO a xs _ _ _ ta p =>
      have hp' := TrHp.sub (K := K) (cn := cn) hp (L1 := [(a, .lst xs)]) p
      exact .lst (.inl (.inl (hp'.1.2 (a, .lst xs) List.mem_cons_self))) (ddA_of ts ta hp'.2 e)
  | .tup ts, _, _, d, h, hp, e => by
    simp only [T.data, Option.map_eq_some_iff] at e
    obtain ⟨ds, e, rfl⟩ := e
    cases h with
    | tup ea ta => exact .tup (same_T hp.1 ea) (ddA_of ts ta hp e)
  | .dct o ks ts, _, _, d, h, hp, e => by
    simp only [T.data, Option.map_eq_some_iff] at e
    obtain ⟨ds, e, rfl⟩ := e
    cases h with
    | @dctF a kvs _ _ ea hk ta => exact .dct (ea.elim (fun q => .inl (hp.1 _ _ q)) (fun q => .inr (q.elim fun o q => ⟨o, hp.1 _ _ q⟩))) (ddK_of hk) (ddA_of ts ta hp e)
    | @dctO a kvs _ _ _ _ hk ta p =>
      have hp' := TrHp.sub (K := K) (cn := cn) hp (L1 := [(a, .dK kvs)]) p
      exact .dct (.inl (hp'.1.2 (a, .dK kvs) List.mem_cons_self)) (ddK_of hk) (ddA_of ts ta hp'.2 e)
  | .atv w t, _, _, d, h, hp, e => by
    cases h with
    | atv h p => exact dd_of t h ⟨hp.1, fun c hc => hp.2 c (p.mem_iff.mpr hc)⟩ e
  | .unb, _, _, _, h, _, e => by cases e
  | .exn _ _, _, _, _, h, _, e => by cases e
  | .ty _, _, _, _, h, _, e => by cases e
  | .cls _, _, _, _, h, _, e => by cases e
  | .ins _ _ _ _, _, _, _, h, _, e => by cases e
theorem ddA_of {K : PySem.W.Frag} {cn : Str → Addr} {H F : Hp} : ∀ (ts : List T) {L : List Cell} {vs : List V} {ds : List PyData}, TrA K cn F L vs ts → TrHp K cn H F L → T.dataA ts = some ds → DdA K H vs ds
  | [], _, _, _, h, _, e => by cases h; cases e; exact .nil
  | t :: ts, _, _, ds, h, hp, e => by
    cases h with
    | cons a b p =>
      simp only [T.dataA] at e
      cases e1 : t.data with
      | none => rw [e1] at e; cases e
      | some d =>
        cases e2 : T.dataA ts with
        | none => rw [e1, e2] at e; cases e
        | some ds' =>
          rw [e1, e2] at e; cases e
          have hp' := TrHp.sub (K := K) (cn := cn) hp p
          exact .cons (dd_of t a hp'.1 e1) (ddA_of ts b hp'.2 e2)
end
theorem d_repr : Does1 G (fun x H Q => gRepr G.K [x] H Q) (f1 reprT) := does1_f1 fun {F H La Lf x a t Q} s ta e q => by
  unfold reprT at e
  cases ed : a.data with
  | none => rw [ed] at e; cases e
  | some d =>
    rw [ed] at e
    dsimp only at e
    split at e
    · rename_i h
      cases e
      exact ⟨x, d, rfl, dd_of a ta (hp1 s) ed, h.1, h.2.1, h.2.2, leafS s.right q⟩
    · cases e
end
end En
set_option maxRecDepth 100000
set_option maxHeartbeats 1000000
namespace En
open PySem PySem.Spec PyProof.Rows L2 Gk
local macro_rules | `(tactic| walk_at "pm") => `(tactic| (simp only [List.perm_iff_count, List.count_append, List.count_cons, List.count_nil] at *; grind))
noncomputable def tyT : T → Option String
  | .non => some "NoneType"
  | .bl _ => some "bool"
  | .int _ => some "int"
  | .str _ => some "str"
  | .lst _ _ => some "list"
  | .tup _ => some "tuple"
  | .dct _ _ _ => some "dict"
  | _ => none
noncomputable def isTy (n : String) : Bool := n == "NoneType" || n == "bool" || n == "int" || n == "str" || n == "list" || n == "tuple" || n == "dict"
/-- of the type at hand, or not -/
noncomputable def subB (a b : String) : Option Bool := if isTy b = true then some (a == b || (a == "bool" && b == "int")) else none
noncomputable def isiB (a b : T) : Option Bool := match tyT a with
  | none => none
  | some ta => match b with
    | .ty n => subB ta n
    | _ => none
noncomputable def isiT (a b : T) : Option T := (isiB a b).map .bl
section
variable {G : Ct}
theorem subB_ok {a b : String} {k : Bool} (ha : isTy a = true) (h : subB a b = some k) : kitB a b = some k := by
  unfold subB at h
  split at h
  · rename_i hb
    cases h
    simp only [isTy, Bool.or_eq_true, beq_iff_eq] at ha hb
    rcases ha with (((((rfl | rfl) | rfl) | rfl) | rfl) | rfl) | rfl <;> rcases hb with (((((rfl | rfl) | rfl) | rfl) | rfl) | rfl) | rfl <;> decide +kernel
  · cases h
theorem tyT_ok {F H : Hp} {La : List Cell} {x : V} {a : T} {n : String} (hp : TrHp G.K G.cn H F La) (ta : Tr G.K G.cn F La x a) (e : tyT a = some n) : TyX G.K H x (.type n) ∧ isTy n = true := by
  cases ta <;> simp only [tyT, Option.some.injEq, reduceCtorEq] at e <;> subst e
  · exact ⟨.base .non, by decide⟩
  · exact ⟨.base (.bl _), by decide⟩
  · exact ⟨.base (.int _), by decide⟩
  · exact ⟨.base (.str _), by decide⟩
  · rename_i h _
    exact ⟨.base (.lst (hp.1 _ _ h)), by decide⟩
  · rename_i p
    exact ⟨.base (.lst (hp.2 (_, .lst _) (p.mem_iff.mpr List.mem_cons_self))), by decide⟩
  · rename_i h _
    refine ⟨?_, by decide⟩
    rcases h with (h | ⟨o, h⟩) | ⟨o, its, n, h, hc, _⟩
    · exact .base (.tup (hp.1 _ _ h))
    · exact .fTuple (hp.1 _ _ h)
    · exact .kTuple h hc
  · rename_i h _ _
    refine ⟨?_, by decide⟩
    rcases h with h | ⟨o, h⟩
    · exact .base (.dK (hp.1 _ _ h))
    · exact .fDict (hp.1 _ _ h)
  · rename_i p
    exact ⟨.base (.dK (hp.2 (_, .dK _) (p.mem_iff.mpr List.mem_cons_self))), by decide⟩
theorem d_isi : Does2 G (fun x y H Q => gIsi G.K [x, y] H Q) (f2 isiT) := does2_f2 fun {F H La Lb Lf x y a b t Q} s ta tb e q => by
  simp only [isiT, Option.map_eq_some_iff] at e
  obtain ⟨k, e, rfl⟩ := e
  unfold isiB at e
  cases et : tyT a with
  | none => rw [et] at e; cases e
  | some n =>
    rw [et] at e
    obtain ⟨ty, hn⟩ := tyT_ok (hp1 s) ta et
    cases b with
    | ty c =>
      cases tb
      exact .inl ⟨x, .ty c, .type n, .type c, k, rfl, .ty c, ty, kit_ty (subB_ok hn e), leafB s.tail2 q⟩
    | _ => cases e
/-- list(x), tuple(x) -/
noncomputable def kyT : Ky → T
  | .inl i => .int i
  | .inr s => .str s
theorem kyT_ok {K : PySem.W.Frag} {cn : Str → Addr} {F : Hp} : ∀ {kvs : List (Key × V)} {ks : List Ky}, kvs.map (·.1) = ks.map kyK → TrA K cn F [] (kvs.map fun kv => kV kv.1) (ks.map kyT)
  | [], [], _ => .nil
  | [], _ :: _, h => by simp at h
  | _ :: _, [], h => by simp at h
  | kv :: kvs, k :: ks, h => by
    simp only [List.map_cons, List.cons.injEq] at h
    refine .cons (L1 := []) (L2 := []) ?_ (kyT_ok h.2) (.refl _)
    show Tr K cn F [] (kV kv.1) (kyT k); rw [h.1]
    cases k with
    | inl i => exact .int i
    | inr z => exact .str z
noncomputable def listT : T → Option T
  | .lst _ ts => some (.lst true ts)
  | .tup ts => some (.lst true ts)
  | .dct _ ks _ => some (.lst true (ks.map kyT))
  | _ => none
noncomputable def tupleT : T → Option T
  | .lst _ ts => some (.tup ts)
  | .tup ts => some (.tup ts)
  | _ => none
theorem d_list : Does1 G (fun x H Q => gList G.K [x] H Q) (f1 listT) := does1_f1 fun {F H La Lf x a t Q} s ta e q => by
  unfold listT at e
  split at e
  · cases e
    obtain ⟨p, xs, D, L', rfl, e1, t1, q1⟩ := ta.lst s
    exact .inl ⟨p, xs, rfl, .inl (.inl (.inl e1)), newL (La := L') ((s.perm (M := D ++ (L' ++ Lf)) (by walk_at "pm")).right) t1 q⟩
  · cases e
    obtain ⟨p, xs, rfl, e1, t1⟩ := ta.tupI s
    exact .inl ⟨p, xs, rfl, .inr e1, newL s t1 q⟩
  · cases e
    obtain ⟨p, kvs, D, L', rfl, e1, hk, t1, q1⟩ := ta.dctI s
    exact .inr ⟨p, kvs, rfl, e1, newL (La := []) s.right (kyT_ok hk) q⟩
  · cases e
theorem d_tuple : Does1 G (fun x H Q => (fun (xs : List V) (H : Hp) (Q : VK) => ∃ p ys, xs = [.ref p] ∧ ((SqL G.K H p ys ∧ ∀ l, H l = none → Q (.ref l) (upd H l (.tup ys))) ∨ (SqT G.K H p ys ∧ Q (.ref p) H))) [x] H Q) (f1 tupleT) := does1_f1 fun {F H La Lf x a t Q} s ta e q => by
  unfold tupleT at e
  split at e
  · cases e
    obtain ⟨p, xs, D, L', rfl, e1, t1, q1⟩ := ta.lst s
    exact ⟨p, xs, rfl, .inl ⟨.inl (.inl e1), newT (La := L') ((s.perm (M := D ++ (L' ++ Lf)) (by walk_at "pm")).right) t1 q⟩⟩
  · cases e
    have ta' := ta
    obtain ⟨p, xs, rfl, e1, t1⟩ := ta.tupI s
    exact ⟨p, xs, rfl, .inr ⟨e1, q _ H F La s same_refl ta'⟩⟩
  · cases e
noncomputable def strsOf : List T → Option (List (List Nat))
  | [] => some []
  | .str i :: r => (strsOf r).map (i :: ·)
  | _ => none
theorem strsOf_ok {F : Hp} : ∀ {ts : List T} {L : List Cell} {vs : List V} {ns : List (List Nat)}, TrA G.K G.cn F L vs ts → strsOf ts = some ns → vs = ns.map vt
  | [], _, _, _, .nil, e => by cases e; rfl
  | t :: ts, _, _, ns, .cons a b p, e => by
    cases t <;> simp only [strsOf, Option.map_eq_some_iff, reduceCtorEq] at e
    obtain ⟨ns', e, rfl⟩ := e
    rw [strsOf_ok b e, a.strI]; rfl
noncomputable def joinT : T → T → Option T
  | .str a, .lst _ ts => match strsOf ts with
    | some ls => if (ls.map (·.length)).sum + ls.length * a.length ≤ lim then some (.str (TL.joinL a ls)) else none
    | none => none
  | .str a, .tup ts => match strsOf ts with
    | some ls => if (ls.map (·.length)).sum + ls.length * a.length ≤ lim then some (.str (TL.joinL a ls)) else none
    | none => none
  | _, _ => none
theorem lens_tx (ls : List (List Nat)) : ((ls.map tx).map (·.length)).sum = (ls.map (·.length)).sum := by
  rw [List.map_map]; congr 1
theorem d_join : Does2 G (fun x y H Q => gJoin G.K x [y] H Q) (f2 joinT) := does2_f2 fun {F H La Lb Lf x y a b t Q} s ta tb e q => by
  have key : ∀ {p : Addr} {ls : List (List Nat)} {z : List Nat}, x = vt z → (SqL G.K H p (ls.map vt) ∨ SqT G.K H p (ls.map vt)) → (ls.map (·.length)).sum + ls.length * z.length ≤ lim → t = .str (TL.joinL z ls) → gJoin G.K x [.ref p] H Q := by
    rintro p ls z rfl h hl rfl
    refine ⟨tx z, p, ls.map tx, rfl, rfl, by rw [← vts]; exact h, ?_, ?_⟩
    · rw [lens_tx, List.length_map, tx_len]
      exact Nat.le_trans hl (by decide)
    · rw [show Txt.join (tx z) (ls.map tx) = tx (TL.joinL z ls) from SX.join_S z ls]
      exact leafS s.tail2 q
  unfold joinT at e
  split at e
  · cases e1 : strsOf _ with
    | none => rw [e1] at e; cases e
    | some ls =>
      rw [e1] at e
      dsimp only at e
      split at e
      · rename_i hl
        cases e
        obtain ⟨p, xs, D, L', rfl, e2, t1, q1⟩ := tb.lst s.right
        exact key ta.strI (.inl (by rw [← strsOf_ok t1 e1]; exact .inl (.inl e2))) hl rfl
      · cases e
  · cases e1 : strsOf _ with
    | none => rw [e1] at e; cases e
    | some ls =>
      rw [e1] at e
      dsimp only at e
      split at e
      · rename_i hl
        cases e
        obtain ⟨p, xs, rfl, e2, t1⟩ := tb.tupI s.right
        exact key ta.strI (.inr (by rw [← strsOf_ok t1 e1]; exact e2)) hl rfl
      · cases e
  · cases e
noncomputable def upperT : T → Option T
  | .str s => if s.length ≤ lim ∧ s.all (· < 128) = true then some (.str (s.map up1)) else none
  | _ => none
theorem d_upper : Does1 G (fun x H Q => ∃ a, x = .str a ∧ ([] : List V) = [] ∧ a.length ≤ 5592405 ∧ Q (.str (Txt.upper a)) H) (f1 upperT) := does1_f1 fun {F H La Lf x a t Q} s ta e q => by
  unfold upperT at e
  split at e
  · split at e
    · rename_i h
      cases e; rw [ta.strI]
      exact ⟨_, rfl, rfl, by rw [tx_len]; exact Nat.le_trans h.1 (by decide), by rw [show Txt.upper (tx _) = tx _ from SX.upper_S h.2]; exact leafS s.right q⟩
    · cases e
  · cases e
end
end En
set_option maxRecDepth 100000
set_option maxHeartbeats 1000000
namespace En
open PySem PySem.Spec PyProof.Rows L2 Gk
local macro_rules | `(tactic| walk_at "pm") => `(tactic| (simp only [List.perm_iff_count, List.count_append, List.count_cons, List.count_nil] at *; grind))
section
variable {G : Ct}
/-- a list that is ours -/
theorem ownL {F H : Hp} {L Lf : List Cell} {x : V} {t : T} {us : List T} (tr : Tr G.K G.cn F L x t) (e : t.un = .lst true us) (s : Sx H (L ++ Lf) F) : ∃ a xs N, x = .ref a ∧ H a = some (.lst xs) ∧ TrA G.K G.cn F N xs us ∧ L.Perm ((a, .lst xs) :: N) := by
  have tr := un_tr tr
  rw [e] at tr
  cases tr with
  | @lstO a xs _ N _ ta p => exact ⟨a, xs, N, rfl, (s.ce (a, .lst xs) (List.mem_append_left _ (p.mem_iff.mpr List.mem_cons_self))).1, ta, p⟩
theorem ownD {F H : Hp} {L Lf : List Cell} {x : V} {t : T} {ks : List Ky} {us : List T} (tr : Tr G.K G.cn F L x t) (e : t.un = .dct true ks us) (s : Sx H (L ++ Lf) F) : ∃ a kvs N, x = .ref a ∧ H a = some (.dK kvs) ∧ kvs.map (·.1) = ks.map kyK ∧ TrA G.K G.cn F N (kvs.map (·.2)) us ∧ L.Perm ((a, .dK kvs) :: N) := by
  have tr := un_tr tr
  rw [e] at tr
  cases tr with
  | @dctO a kvs _ _ N _ hk ta p => exact ⟨a, kvs, N, rfl, (s.ce (a, .dK kvs) (List.mem_append_left _ (p.mem_iff.mpr List.mem_cons_self))).1, hk, ta, p⟩
noncomputable def appF : List T → Fr
  | [t, y] => match t.un with
    | .lst true us => if us.length < lim then .ok .non [.lst true (us ++ [y])] else .bad
    | _ => .bad
  | _ => .bad
theorem d_app : Does G [true, false] appF (fun vs H Q _ => ∃ x xs, vs = x :: xs ∧ rAppend x xs H Q) := by
  intro vs H Q E h
  have hl := spE_len h
  match vs, hl with
  | [x, y], _ =>
    obtain ⟨F, L, Lf, ts, s, tr, ln, p⟩ := h
    cases tr with
    | @cons _ _ t _ _ L1 L2 a b pp =>
      cases b with
      | @cons _ _ u _ _ M1 M2 c d pq =>
        cases d
        unfold appF at p
        dsimp only at p
        split at p
        · rename_i us hu
          split at p
          · rename_i hl
            have s1 : Sx H (L1 ++ (M1 ++ Lf)) F := s.perm (by walk_at "pm")
            obtain ⟨ad, xs, N, rfl, e1, ta, q⟩ := ownL a hu s1
            have s2 : Sx H ((ad, .lst xs) :: (N ++ (M1 ++ Lf))) F := s1.perm (by walk_at "pm")
            refine ⟨_, [y], rfl, ad, xs, y, rfl, rfl, e1, by rw [ta.len]; exact Nat.lt_of_lt_of_le hl lim_le, ?_⟩
            refine p .non _ F [] ((ad, .lst (xs ++ [y])) :: (N ++ M1)) ?_ same_refl .non (.cons (.lstO (ta.snoc c) (.refl _)) .nil (by simp))
            exact (s2.put _).perm (by walk_at "pm")
          · exact p.elim
        · exact p.elim
noncomputable def clrF : List T → Fr
  | [t] => match t.un with
    | .lst true _ => .ok .non [.lst true []]
    | _ => .bad
  | _ => .bad
noncomputable def insF : List T → Fr
  | [t, i, y] => match t.un, i.un with
    | .lst true us, .int k => if 0 ≤ k ∧ k < 2 ^ 63 ∧ us.length < lim then .ok .non [.lst true (us.take k.toNat ++ [y] ++ us.drop k.toNat)] else .bad
    | _, _ => .bad
  | _ => .bad
theorem TrA.split {K : PySem.W.Frag} {cn : Str → Addr} {F : Hp} : ∀ (n : Nat) {L : List Cell} {vs : List V} {ts : List T}, TrA K cn F L vs ts → ∃ L1 L2, L.Perm (L1 ++ L2) ∧ TrA K cn F L1 (vs.take n) (ts.take n) ∧ TrA K cn F L2 (vs.drop n) (ts.drop n)
  | 0, L, _, _, h => ⟨[], L, by simp, .nil, h⟩
  | n + 1, _, _, _, .nil => ⟨[], [], by simp, .nil, .nil⟩
  | n + 1, _, _, _, .cons (L1 := A) a b p => by
    obtain ⟨L1, L2, q, h1, h2⟩ := TrA.split n b
    exact ⟨A ++ L1, L2, by walk_at "pm", .cons a h1 (.refl _), h2⟩
/-- x[i] = y -/
noncomputable def putK2 (k : Ky) (t : T) (ks : List Ky) (ts : List T) : List Ky × List T :=
  if (ks.any fun c => decide (c = k)) = true then (ks, List.zipWith (fun c x => if c = k then t else x) ks ts) else (ks ++ [k], ts ++ [t])
noncomputable def setF : List T → Fr
  | [t, i, y] => match t.un with
    | .lst true us => match i.un with
      | .int k => match ixN us.length k with
        | some j => .ok .non [.lst true (us.set j y)]
        | none => .bad
      | _ => .bad
    | .dct true ks us => match keyT i.un with
      | some k => if ks.length < lim then .ok .non [.dct true (putK2 k y.frz ks us).1 (putK2 k y.frz ks us).2] else .bad
      | none => .bad
    | _ => .bad
  | _ => .bad
theorem TrA.set {K : PySem.W.Frag} {cn : Str → Addr} {F : Hp} {y : V} {t : T} {M : List Cell} (h : Tr K cn F M y t) : ∀ {j : Nat} {L : List Cell} {vs : List V} {ts : List T}, TrA K cn F L vs ts → ∃ L' D, (L ++ M).Perm (L' ++ D) ∧ TrA K cn F L' (vs.set j y) (ts.set j t)
  | j, _, _, _, .nil => ⟨[], M, by simp, .nil⟩
  | 0, _, _, _, .cons (L1 := A) (L2 := B) a b p => ⟨M ++ B, A, by walk_at "pm", .cons h b (.refl _)⟩
  | j + 1, _, _, _, .cons (L1 := A) (L2 := B) a b p => by
    obtain ⟨L', D, q, h'⟩ := TrA.set h (j := j) b
    exact ⟨A ++ L', D, by walk_at "pm", .cons a h' (.refl _)⟩
theorem putK_ok {K : PySem.W.Frag} {cn : Str → Addr} {F : Hp} {k : Ky} {y : V} {t : T} (hy : Tr K cn F [] y t) {L : List Cell} {kvs : List (Key × V)} {ks : List Ky} {ts : List T} (hk : kvs.map (·.1) = ks.map kyK) (ta : TrA K cn F L (kvs.map (·.2)) ts) :
    (putK kvs (kyK k) y).map (·.1) = (putK2 k t ks ts).1.map kyK ∧ ∃ L' D, L.Perm (L' ++ D) ∧ TrA K cn F L' ((putK kvs (kyK k) y).map (·.2)) (putK2 k t ks ts).2 := by
  have h0 := valV_some (k := k) hk
  rw [← valV_any] at h0
  unfold putK putK2
  by_cases hc : (ks.any fun c => decide (c = k)) = true
  · rw [h0, if_pos hc, if_pos hc]
    clear h0 hc
    refine ⟨?_, ?_⟩
    · rw [← hk, List.map_map]
      exact List.map_congr_left fun kv _ => by
        show (if kv.1 = kyK k then (kv.1, y) else kv).1 = kv.1
        split <;> rfl
    · induction kvs generalizing ks ts L with
      | nil =>
        cases ta
        cases ks with
        | nil => exact ⟨[], [], by simp, .nil⟩
        | cons => simp at hk
      | cons kv kvs ih =>
        cases ks with
        | nil => simp at hk
        | cons c ks =>
          simp only [List.map_cons, List.cons.injEq] at hk
          cases ta with
          | @cons _ _ u us _ A B a b p =>
            obtain ⟨L', D, q, h⟩ := ih hk.2 b
            rw [List.map_cons, List.map_cons, List.zipWith_cons_cons]
            by_cases hck : c = k
            · subst hck
              rw [if_pos hk.1, if_pos rfl]
              exact ⟨L', A ++ D, by walk_at "pm", .cons hy h (by simp)⟩
            · have : ¬ kv.1 = kyK k := fun z => hck (kyK_inj (hk.1.symm.trans z))
              rw [if_neg this, if_neg hck]
              exact ⟨A ++ L', D, by walk_at "pm", .cons a h (.refl _)⟩
  · rw [h0, if_neg hc, if_neg hc]
    refine ⟨by rw [List.map_append, List.map_append, hk]; rfl, L, [], by simp, ?_⟩
    rw [List.map_append]
    have z := ta.snoc hy
    exact z.perm (by simp)
theorem d_set : Does G [true, false, false] setF (fun vs H Q _ => ∃ x k y, vs = [x, k, y] ∧ gSet x k y H (fun H' => Q .non H')) := by
  intro vs H Q E h
  have hl := spE_len h
  match vs, hl with
  | [x, i, y], _ =>
    obtain ⟨F, L, Lf, ts, s, tr, ln, p⟩ := h
    cases tr with
    | @cons _ _ t _ _ L1 L2 a b pp =>
      cases b with
      | @cons _ _ u _ _ M1 M2 c d pq =>
        cases d with
        | @cons _ _ w _ _ N1 N2 e f pr =>
          cases f
          have s1 : Sx H (L1 ++ (M1 ++ (N1 ++ Lf))) F := s.perm (by walk_at "pm")
          have c := un_tr c
          unfold setF at p
          dsimp only at p
          split at p
          · rename_i us hu
            obtain ⟨ad, xs, N, rfl, e1, ta, q⟩ := ownL a hu s1
            split at p
            · rename_i k hk
              rw [hk] at c
              split at p
              · rename_i j hj
                obtain ⟨L', D, q2, h2⟩ := ta.set e (j := j)
                have s2 : Sx H ((ad, .lst xs) :: (L' ++ Lf)) F := (s1.perm (M := (M1 ++ D) ++ ((ad, .lst xs) :: (L' ++ Lf))) (by walk_at "pm")).right
                refine ⟨_, i, y, rfl, .inl ⟨ad, xs, k, j, rfl, c.intI, e1, by rw [ta.len]; exact hj, ?_⟩⟩
                refine p .non _ F [] ((ad, .lst (xs.set j y)) :: L') (s2.put _) same_refl .non (.cons (.lstO h2 (.refl _)) .nil (by simp))
              · exact p.elim
            · exact p.elim
          · rename_i ks us hu
            obtain ⟨ad, kvs, N, rfl, e1, hk, ta, q⟩ := ownD a hu s1
            split at p
            · rename_i k hkk
              split at p
              · rename_i hl
                have s2 : Sx H (N1 ++ ((ad, .dK kvs) :: (N ++ (M1 ++ Lf)))) F := s1.perm (by walk_at "pm")
                have sF := s2.addC_same
                have ey := (Tr.mono sF e).frz fun c hc => s2.addC_mem hc
                obtain ⟨h1, L', D, q2, h2⟩ := putK_ok (k := k) ey hk (ta.mono sF)
                have s3 : Sx H ((ad, .dK kvs) :: (L' ++ Lf)) (addC F N1) := (s2.stand.perm (M := (M1 ++ D) ++ ((ad, .dK kvs) :: (L' ++ Lf))) (by walk_at "pm")).right
                refine ⟨_, i, y, rfl, .inr ⟨ad, _, rfl, .inl ⟨kvs, kyK k, e1, key_ok c hkk, ?_, rfl⟩, ?_⟩⟩
                · have : kvs.length = ks.length := by have := congrArg List.length hk; simpa using this
                  rw [this]; exact Nat.lt_of_lt_of_le hl lim_le
                · exact p .non _ _ [] ((ad, .dK (putK kvs (kyK k) y)) :: L') (s3.put _) sF .non (.cons (.dctO h1 h2 (.refl _)) .nil (by simp))
              · exact p.elim
            · exact p.elim
          · exact p.elim
end
end En
set_option maxRecDepth 100000
set_option maxHeartbeats 1000000
namespace En
open PySem PySem.Spec PyProof.Rows L2 Gk
local macro_rules | `(tactic| walk_at "pm") => `(tactic| (simp only [List.perm_iff_count, List.count_append, List.count_cons, List.count_nil] at *; grind))
noncomputable def cnOf (mg : Str → Option Value) (s : Str) : Addr := match mg s with
  | some (.ref a) => a
  | _ => 0
theorem cnOf_eq {mg : Str → Option Value} {s : Str} {a : Addr} (h : mg s = some (.ref a)) : cnOf mg s = a := by unfold cnOf; rw [h]
noncomputable abbrev gk (K : PySem.W.Frag) (mg : Str → Option Value) (tb : List (Addr × Str) := []) : Ct := ⟨K, cnOf mg, 0, 0, "", tb⟩
noncomputable abbrev WE (E : XK) : WX := fun c d _ H => E c d H
section
variable {G G' : Ct} {W : WX} {J : List Nat} {X : Cx} {c a b e : Expr} {m m1 m2 : M T} {mf : List T → Fr} {io : List Bool}
theorem does_cal (hK : G'.K = G.K := by rfl) (hc : G'.cn = G.cn := by rfl) (ht : G'.tb = G.tb := by rfl) : Does G' io mf (fun vs H Q E => spE G io mf (vs ++ []) H Q E) := fun vs H Q E h => by
  show spE G io mf (vs ++ []) H Q E
  rw [List.append_nil]
  obtain ⟨F, L, Lf, ts, s, tr, ln, p⟩ := h
  rw [hK, hc] at tr
  refine ⟨F, L, Lf, ts, s, tr, ⟨ln.l, fun p hp => ln.t p (by rw [ht]; exact hp)⟩, ?_⟩
  cases hm : mf ts with
  | ok t os => rw [hm] at p; unfold PostF at p; rw [hK, hc] at p; exact p
  | exc C x os => rw [hm] at p; unfold PostF at p; rw [hK, hc] at p; exact p
  | bad => rw [hm] at p; exact p
theorem dts_nil : PTs X [] (rdG G RB W0 (rp true)) := pts_nil.imp fun σ H Q q => rd_rp (b := true) q fun F => ⟨rfl, rfl⟩
theorem dts_one {k : M Bool} (h : DT G W0 X c k) : PTs X [c] (rdG G RB W0 k) := pts_one h
noncomputable def cov (n : Nat) (vs J : List Nat) : Bool := (List.range n).all fun i => vs.contains i || J.contains i
theorem cov_ok {n : Nat} {vs J : List Nat} (h : cov n vs J = true) {k : Nat} (hk : k = n) : ∀ i, i < k → i ∉ vs → i ∈ J := fun i hi hv => by
  subst hk
  unfold cov at h
  rw [List.all_eq_true] at h
  have := h i (List.mem_range.mpr hi)
  simp only [Bool.or_eq_true, List.contains_iff_mem] at this
  exact this.resolve_left hv
theorem de_str {z : Str} {l : List Nat} (h : PE X e (tC (.str z))) (hz : z = tx l) : DE G W X e (rp (.str l)) := de_c h fun F => by rw [hz]; exact .str l
theorem de_int {i : Int} (h : PE X e (tC (.int i))) : DE G W X e (rp (.int i)) := de_c h fun F => .int i
theorem de_bl {i : Bool} (h : PE X e (tC (.bl i))) : DE G W X e (rp (.bl i)) := de_c h fun F => .bl i
theorem de_non (h : PE X e (tC .non)) : DE G W X e (rp .non) := de_c h fun F => .non
theorem de_ty {n : String} (h : PE X e (tC (.ty n))) : DE G W X e (rp (.ty n)) := de_c h fun F => .ty n
end
end En
set_option maxRecDepth 100000
set_option maxHeartbeats 1000000
namespace En
open PySem PySem.Spec PyProof.Rows L2 Gk
theorem sp_scriptT {K : PySem.W.Frag} {mg : Str → Option Value} {tb : List (Addr × Str)} {H : Hp} {a : Addr} {ns : List Int} {mf : List T → Fr} {Q : VK} {E : XK} (hT : ∀ p ∈ tb, H p.1 = some (.tbl #[])) (hu : ∀ p ∈ tb, ∀ q ∈ tb, p.1 = q.1 → p.2 = q.2)
    (hs : SqL K H a (ns.map V.int)) (hm : ∃ os, mf [.sq ns] = .ok (.bl true) os) (q : ∀ H', Q (.bl true) H') : spE (gk K mg tb) [false] mf [.ref a] H Q E := by
  obtain ⟨os, hm⟩ := hm
  have key : ∃ F, Smh F H ∧ SqL K F a (ns.map V.int) ∧ TbIn (gk K mg tb) F := by
    have hF0 : ∃ F0 : Hp, Same F0 H ∧ SqL K F0 a (ns.map V.int) ∧ (∀ p ∈ tb, F0 p.1 = none) ∧ ∀ b u, F0 b = some u → ∀ m, u ≠ .tbl m := by
      have nt : ∀ u, H a = some u → (∀ ps, u ≠ .tbl ps) → ∀ p ∈ tb, p.1 ≠ a := fun u e n p hp z => by
        have := hT p hp
        rw [z, e] at this
        exact n _ (Option.some.inj this)
      rcases hs with (h | ⟨o, h⟩) | h
      · refine ⟨fun b => if b = a then H a else none, fun b o e => ?_, .inl (.inl ?_), fun p hp => if_neg (nt _ h (fun _ z => nomatch z) p hp), fun b u e m z => ?_⟩
        · dsimp only at e; split at e
          · rename_i h'; subst h'; exact e
          · cases e
        · simp [h]
        · dsimp only at e; split at e
          · rw [h, z] at e; cases e
          · cases e
      · refine ⟨fun b => if b = a then H a else none, fun b o e => ?_, .inl (.inr ⟨o, ?_⟩), fun p hp => if_neg (nt _ h (fun _ z => nomatch z) p hp), fun b u e m z => ?_⟩
        · dsimp only at e; split at e
          · rename_i h'; subst h'; exact e
          · cases e
        · simp [h]
        · dsimp only at e; split at e
          · rw [h, z] at e; cases e
          · cases e
      · exact ⟨fun _ => none, (fun _ _ e => nomatch e), Or.inr h, fun _ _ => rfl, fun _ _ e => nomatch e⟩
    obtain ⟨F0, sm, hF, hn, hno⟩ := hF0
    let F : Hp := fun b => match tb.find? (fun p => p.1 == b) with
      | some p => some (mark p.2)
      | none => F0 b
    have hin : ∀ b p, tb.find? (fun p => p.1 == b) = some p → p ∈ tb ∧ p.1 = b := fun b p e => ⟨List.mem_of_find?_eq_some e, by simpa using List.find?_some e⟩
    have sF : Same F0 F := fun b u e => by
      show (match tb.find? (fun p => p.1 == b) with | some p => some (mark p.2) | none => F0 b) = some u
      cases hf : tb.find? (fun p => p.1 == b) with
      | none => exact e
      | some p =>
        obtain ⟨h1, h2⟩ := hin b p hf
        have := hn p h1
        rw [h2, e] at this; cases this
    refine ⟨F, fun b u e => ?_, sF.seq hF, fun p hp => ?_⟩
    · have e : (match tb.find? (fun p => p.1 == b) with | some p => some (mark p.2) | none => F0 b) = some u := e
      cases hf : tb.find? (fun p => p.1 == b) with
      | none => rw [hf] at e; exact .ats (sm b u e) (hno b u e)
      | some p =>
        rw [hf] at e
        obtain ⟨h1, h2⟩ := hin b p hf
        cases e
        exact ⟨#[], p.2, rfl, by rw [← h2]; exact hT p h1, True.intro, fun pos cv hc => by
          have z : codeAmong pos [] = some cv := hc
          simp [codeAmong] at z⟩
    · show (match tb.find? (fun q => q.1 == p.1) with | some p => some (mark p.2) | none => F0 p.1) = some (mark p.2)
      cases hf : tb.find? (fun q => q.1 == p.1) with
      | none =>
        have := List.find?_eq_none.mp hf p hp
        simp at this
      | some p' =>
        obtain ⟨h1, h2⟩ := hin _ p' hf
        show some (mark p'.2) = _
        rw [hu p' h1 p hp h2]
  obtain ⟨F, sm, hF, ht⟩ := key
  refine ⟨F, [], [], [.sq ns], ⟨sm, (fun _ h => nomatch h), List.nodup_nil, fun _ h => nomatch h⟩, .cons (.sq ns hF) .nil (.refl _), ⟨rfl, ht⟩, ?_⟩
  rw [hm]
  intro r H' F' La Lb s sm2 tr to
  rw [tr.blI]; exact q H'
theorem sp_script {K : PySem.W.Frag} {mg : Str → Option Value} {H : Hp} {a : Addr} {ns : List Int} {mf : List T → Fr} {Q : VK} {E : XK} (hs : SqL K H a (ns.map V.int)) (hm : ∃ os, mf [.sq ns] = .ok (.bl true) os) (q : ∀ H', Q (.bl true) H') : spE (gk K mg) [false] mf [.ref a] H Q E :=
  sp_scriptT (fun _ h => nomatch h) (fun _ h => nomatch h) hs hm q
end En
set_option maxRecDepth 100000
set_option maxHeartbeats 1000000
namespace En
open PySem PySem.Spec PyProof.Rows L2 Gk
end En
set_option maxRecDepth 100000
set_option maxHeartbeats 1000000
namespace En
open PySem PySem.Spec PyProof.Rows L2 Gk
local macro_rules | `(tactic| walk_at "pm") => `(tactic| (simp only [List.perm_iff_count, List.count_append, List.count_cons, List.count_nil] at *; grind))
noncomputable def nrmE (K Z : List Nat) (e : Env) : Env := unbS K (frzS Z e)
section
variable {G : Ct} {F F' H H' : Hp} {L L' L1 L0 Lf Mc : List Cell} {W : WX} {J : List Nat} {σ σ' : Sg} {D : Ends} {m : Sm} {env : Env}
theorem EnvR.kill {vs : List Nat} (er : EnvR G F L σ env) : ∃ L' D, L.Perm (L' ++ D) ∧ EnvR G F L' σ (unbS vs env) := by
  induction vs with
  | nil => exact ⟨L, [], by simp, er⟩
  | cons i r ih =>
    obtain ⟨L', D, p, er'⟩ := ih
    obtain ⟨L2, D2, p2, er2⟩ := er'.setU' (i := i)
    exact ⟨L2, D2 ++ D, by walk_at "pm", er2⟩
theorem EnvR.nrm {K Z : List Nat} (er : EnvR G F L σ env) (s : Sx H (L ++ Lf) F) : ∃ F' L', Same F F' ∧ Sx H (L' ++ Lf) F' ∧ EnvR G F' L' σ (nrmE K Z env) := by
  obtain ⟨B, L1, p, mt, view⟩ := er.split (I := Z) s
  have s2 : Sx H (B ++ (L1 ++ Lf)) F := s.perm (by walk_at "pm")
  have er1 := view (addC F B) s2.addC_same fun c hc => s2.addC_mem hc
  obtain ⟨L2, D, p2, er2⟩ := er1.kill (vs := K)
  exact ⟨addC F B, L2, s2.addC_same, (s2.stand.perm (M := D ++ (L2 ++ Lf)) (by walk_at "pm")).right, er2⟩
theorem EnvR.nrm2 {K Z : List Nat} {La : List Cell} (er : EnvR G F L σ env) (s : Sx H (La ++ (L ++ Lf)) F) : ∃ F' L', Same F F' ∧ Sx H (La ++ (L' ++ Lf)) F' ∧ EnvR G F' L' σ (nrmE K Z env) := by
  obtain ⟨F', L', a, b, c⟩ := er.nrm (K := K) (Z := Z) (Lf := La ++ Lf) (s.perm (by walk_at "pm"))
  exact ⟨F', L', a, b.perm (by walk_at "pm"), c⟩
noncomputable def nrmR (kn zn kb zb kx zx : List Nat) : Rt → Rt
  | .nxt e => .nxt (nrmE kn zn e)
  | .brk e => .brk (nrmE kb zb e)
  | .cnt e => .cnt (nrmE kb zb e)
  | .ret t e => .ret t (nrmE kx zx e)
  | .exc C x e => .exc C x (nrmE kx zx e)
  | .bad => .bad
noncomputable def nrmS (kn zn kb zb kx zx : List Nat) (m : Sm) : Sm := fun e => nrmR kn zn kb zb kx zx (m e)
noncomputable def nrmP (K Z : List Nat) : Sm := fun e => .nxt (nrmE K Z e)
theorem post_nrm {kn zn kb zb kx zx : List Nat} {r : Rt} (p : PostS G W J F Lf σ D (nrmR kn zn kb zb kx zx r)) : PostS G W J F Lf σ D r := by
  cases r with
  | nxt e =>
    intro σ' H' F' La s sm er k
    obtain ⟨F2, L2, a, b, c⟩ := er.nrm (K := kn) (Z := zn) s
    exact p σ' H' F2 L2 b (same_trans sm a) c k
  | brk e =>
    intro σ' H' F' La s sm er k
    obtain ⟨F2, L2, a, b, c⟩ := er.nrm (K := kb) (Z := zb) s
    exact p σ' H' F2 L2 b (same_trans sm a) c k
  | cnt e =>
    intro σ' H' F' La s sm er k
    obtain ⟨F2, L2, a, b, c⟩ := er.nrm (K := kb) (Z := zb) s
    exact p σ' H' F2 L2 b (same_trans sm a) c k
  | ret t e =>
    intro v σ' H' F' La Lb s sm tr er k
    obtain ⟨F2, L2, a, b, c⟩ := er.nrm2 (K := kx) (Z := zx) s
    exact p v σ' H' F2 La L2 b (same_trans sm a) (tr.mono a) c k
  | exc C x e =>
    intro v d σ' H' F' La Lb s sm tr er k
    obtain ⟨F2, L2, a, b, c⟩ := er.nrm2 (K := kx) (Z := zx) (La := (d, xdO C v) :: La) s
    exact p v d σ' H' F2 La L2 b (same_trans sm a) (tr.mono a) c k
  | bad => exact p
theorem rd_nrm {kn zn kb zb kx zx : List Nat} {H : Hp} (q : rdS G W J (nrmS kn zn kb zb kx zx m) D σ H) : rdS G W J m D σ H := by
  obtain ⟨F, L, Lf, env, s, er, p⟩ := q
  exact ⟨F, L, Lf, env, s, er, post_nrm p⟩
theorem rd_pre {K Z : List Nat} {H : Hp} (q : rdS G W J (seqS (nrmP K Z) m) D σ H) : rdS G W J m D σ H := by
  obtain ⟨F, L, Lf, env, s, er, p⟩ := q
  obtain ⟨F2, L2, a, b, c⟩ := er.nrm (K := K) (Z := Z) s
  exact ⟨F2, L2, Lf, _, b, c, PostS.shift a .refl p⟩
theorem ds_nrm {X : Cx} {st : Stmt} (kn zn kb zb kx zx : List Nat) (h : DS G W J X st m) : DS G W J X st (nrmS kn zn kb zb kx zx m) := h.imp fun D σ H q => rd_nrm q
theorem dss_nrm {X : Cx} {st : List Stmt} (kn zn kb zb kx zx : List Nat) (h : DSs G W J X st m) : DSs G W J X st (nrmS kn zn kb zb kx zx m) := h.imp fun D σ H q => rd_nrm q
theorem ds_pre {X : Cx} {st : Stmt} (K Z : List Nat) (h : DS G W J X st m) : DS G W J X st (seqS (nrmP K Z) m) := h.imp fun D σ H q => rd_pre q
end
end En
set_option maxRecDepth 100000
set_option maxHeartbeats 1000000
namespace En
open PySem PySem.Spec PyProof.Rows L2 Gk
end En
set_option maxRecDepth 100000
set_option maxHeartbeats 1000000
namespace En
open PySem PySem.Spec PyProof.Rows L2 Gk
local macro_rules | `(tactic| walk_at "pm") => `(tactic| (simp only [List.perm_iff_count, List.count_append, List.count_cons, List.count_nil] at *; grind))
mutual
noncomputable def T.still : T → Bool
  | .lst o ts => !o && T.stillA ts
  | .tup ts => T.stillA ts
  | .dct o _ ts => !o && T.stillA ts
  | .ins o _ _ ts => !o && T.stillA ts
  | .atv _ t => t.still
  | _ => true
noncomputable def T.stillA : List T → Bool
  | [] => true
  | t :: ts => t.still && T.stillA ts
end
mutual
theorem frz_still : ∀ t : T, t.frz.still = true
  | .lst _ ts => by rw [T.frz, T.still, frzA_still ts]; rfl
  | .tup ts => by rw [T.frz, T.still, frzA_still ts]
  | .dct _ _ ts => by rw [T.frz, T.still, frzA_still ts]; rfl
  | .ins _ _ _ ts => by rw [T.frz, T.still, frzA_still ts]; rfl
  | .atv _ t => by rw [T.frz, T.still, frz_still t]
  | .unb => rfl | .non => rfl | .bl _ => rfl | .int _ => rfl | .str _ => rfl | .ty _ => rfl | .cls _ => rfl | .ptr _ _ => rfl | .sq _ => rfl | .exn _ _ => rfl
theorem frzA_still : ∀ ts : List T, T.stillA (T.frzA ts) = true
  | [] => rfl
  | t :: ts => by rw [T.frzA, T.stillA, frz_still t, frzA_still ts]; rfl
end
mutual
theorem still_frz : ∀ t : T, t.still = true → t.frz = t
  | .lst o ts, h => by
    rw [T.still, Bool.and_eq_true] at h
    cases o with
    | true => cases h.1
    | false => rw [T.frz, stillA_frz ts h.2]
  | .tup ts, h => by rw [T.still] at h; rw [T.frz, stillA_frz ts h]
  | .dct o ks ts, h => by
    rw [T.still, Bool.and_eq_true] at h
    cases o with
    | true => cases h.1
    | false => rw [T.frz, stillA_frz ts h.2]
  | .ins o C ns ts, h => by
    rw [T.still, Bool.and_eq_true] at h
    cases o with
    | true => cases h.1
    | false => rw [T.frz, stillA_frz ts h.2]
  | .atv v t, h => by rw [T.still] at h; rw [T.frz, still_frz t h]
  | .unb, _ => rfl | .non, _ => rfl | .bl _, _ => rfl | .int _, _ => rfl | .str _, _ => rfl | .ty _, _ => rfl | .cls _, _ => rfl | .ptr _ _, _ => rfl | .sq _, _ => rfl | .exn _ _, _ => rfl
theorem stillA_frz : ∀ ts : List T, T.stillA ts = true → T.frzA ts = ts
  | [], _ => rfl
  | t :: ts, h => by
    rw [T.stillA, Bool.and_eq_true] at h
    rw [T.frzA, still_frz t h.1, stillA_frz ts h.2]
end
end En
set_option maxRecDepth 100000
set_option maxHeartbeats 1000000
namespace En
open PySem PySem.Spec PyProof.Rows L2 Gk
end En
set_option maxRecDepth 100000
set_option maxHeartbeats 1000000
namespace En
open PySem PySem.Spec PyProof.Rows L2 Gk
end En
set_option maxRecDepth 100000
set_option maxHeartbeats 1000000
namespace En
open PySem PySem.Spec PyProof.Rows L2 Gk
section
variable {α β γ : Type}
noncomputable def Rs.b : Rs α → (α → M β) → Rs β
  | .ok a e, k => k a e
  | .exc C x e, _ => .exc C x e
  | .bad, _ => .bad
noncomputable def Rs.s : Rs α → (α → Sm) → Rt
  | .ok a e, k => k a e
  | .exc C x e, _ => .exc C x e
  | .bad, _ => .bad
noncomputable def Rt.b : Rt → Sm → Rt
  | .nxt e, b => b e
  | r, _ => r
noncomputable def Fr.o : Option T → Fr
  | some t => .ok t []
  | none => .bad
noncomputable def Fr.e : Option (List T × Env) → (List T → Fr) → Fr
  | some (os, _), f => f os
  | none, _ => .bad
noncomputable def Rt.f (J : List Nat) : Rt → Fr
  | .nxt e => Fr.e (takeS J e) (.ok .non)
  | .ret t e => Fr.e (takeS J e) (.ok t)
  | .exc C x e => Fr.e (takeS J e) (.exc C x)
  | _ => .bad
noncomputable def Rs.o {α : Type} : Option α → Env → Rs α
  | some a, e => .ok a e
  | none, _ => .bad
noncomputable def ob {α β : Type} : Option α → (α → Option β) → Option β
  | some a, k => k a
  | none, _ => none
/-- a name looked up -/
noncomputable def sel (e : Env) (i : Nat) (k : T → Rs α) : Option T → Rs α
  | some t => if t.isV = true then k t else .bad
  | none => .bad
theorem rb_e (m : M α) (k : α → M β) (e : Env) : rb m k e = (m e).b k := by unfold rb Rs.b; cases m e <;> rfl
theorem rp_e (a : α) (e : Env) : rp a e = .ok a e := rfl
theorem rsb_ok (a : α) (e : Env) (k : α → M β) : (Rs.ok a e).b k = k a e := rfl
theorem rsb_exc (C : Str) (x : T) (e : Env) (k : α → M β) : (Rs.exc C x e : Rs α).b k = .exc C x e := rfl
theorem ofE_e (m : M T) (k : T → Sm) (e : Env) : ofE m k e = (m e).s k := by unfold ofE Rs.s; cases m e <;> rfl
theorem rss_ok (a : α) (e : Env) (k : α → Sm) : (Rs.ok a e).s k = k a e := rfl
theorem rss_exc (C : Str) (x : T) (e : Env) (k : α → Sm) : (Rs.exc C x e : Rs α).s k = .exc C x e := rfl
theorem seqS_e (a b : Sm) (e : Env) : seqS a b e = (a e).b b := by unfold seqS Rt.b; cases a e <;> rfl
theorem rtb_nxt (e : Env) (b : Sm) : (Rt.nxt e).b b = b e := rfl
theorem rtb_ret (t : T) (e : Env) (b : Sm) : (Rt.ret t e).b b = .ret t e := rfl
theorem rtb_exc (C : Str) (t : T) (e : Env) (b : Sm) : (Rt.exc C t e).b b = .exc C t e := rfl
theorem rtb_brk (e : Env) (b : Sm) : (Rt.brk e).b b = .brk e := rfl
theorem rtb_cnt (e : Env) (b : Sm) : (Rt.cnt e).b b = .cnt e := rfl
theorem skipS_e (e : Env) : skipS e = .nxt e := rfl
theorem exprS_o (m : M T) (e : Env) : exprS m e = (m e).s fun _ e => .nxt e := ofE_e _ _ _
theorem retS_o (m : M T) (e : Env) : retS m e = (m e).s fun t e => .ret t e := ofE_e _ _ _
theorem raiseS_o (C : Str) (m : M T) (e : Env) : raiseS C m e = (m e).s fun t e => .exc C t e := ofE_e _ _ _
noncomputable def optR (k : Env → Rt) : Option Env → Rt
  | some e => k e
  | none => .bad
theorem asgS_o (g : Tgt) (m : M T) (e : Env) : asgS g m e = (m e).s fun t e => optR .nxt (g t e) := by unfold asgS; rw [ofE_e]; congr
theorem optR_s (k : Env → Rt) (e : Env) : optR k (some e) = k e := rfl
theorem ifS_o (c : M Bool) (a b : Sm) (e : Env) : ifS c a b e = (c e).s fun k e => if k = true then a e else b e := by unfold ifS Rs.s; cases c e <;> rfl
theorem ifE_o (c : M Bool) (a b : M α) (e : Env) : ifE c a b e = (c e).b fun k e => if k = true then a e else b e := by unfold ifE; rw [rb_e]; congr; funext k e; split <;> rfl
theorem callE1_o (mf : List T → Fr) (a : Opd) (e : Env) : callE1 mf a e = (evO a e).b fun x => callM mf [x] := rb_e _ _ _
theorem callE2_o (mf : List T → Fr) (a b : Opd) (e : Env) : callE2 mf a b e = (evO a e).b fun x e => (evO b e).b fun y => callM mf [x, y] := by unfold callE2; rw [rb_e]; congr; funext x e; rw [rb_e]
theorem callE_e (mf : List T → Fr) (os : List Opd) (e : Env) : callE mf os e = (evA os e).b (callM mf) := rb_e _ _ _
theorem evA_nil (e : Env) : evA [] e = .ok [] e := rfl
theorem evA_cons_o (o : Opd) (os : List Opd) (e : Env) : evA (o :: os) e = (evO o e).b fun a e => (evA os e).b fun as e => .ok (a :: as) e := by show rb _ _ e = _; rw [rb_e]; congr; funext a e; rw [rb_e]; rfl
theorem evO_val_o (m : M T) (e : Env) : evO (.val m) e = (m e).b fun t e => .ok (.t t.frz) e := by unfold evO; rw [rb_e]; rfl
theorem evO_own_o (m : M T) (e : Env) : evO (.own m) e = (m e).b fun t e => .ok (.o t) e := by unfold evO; rw [rb_e]; rfl
theorem evO_s_o (i : Nat) (e : Env) : evO (.sl i) e = sel e i (fun _ => .ok (.s i) e) e[i]? := by unfold evO sel; rfl
theorem evO_io_o (i : Nat) (e : Env) : evO (.io i) e = sel e i (fun _ => .ok (.io i) e) e[i]? := by unfold evO sel; rfl
theorem evO_ch_o (c : M Bool) (a b : Opd) (e : Env) : evO (.ch c a b) e = (c e).b fun k e => if k = true then evO a e else evO b e := by
  rw [show evO (.ch c a b) e = rb c (fun k => if k = true then evO a else evO b) e by rw [evO]]; rw [rb_e]; congr; funext k e; split <;> rfl
theorem cpE_o (i : Nat) (e : Env) : cpE i e = sel e i (fun t => .ok t.frz (e.set i t.frz)) e[i]? := rfl
theorem mvE_o (i : Nat) (e : Env) : mvE i e = sel e i (fun t => .ok t (e.set i .unb)) e[i]? := rfl
theorem chkM_e (chk : T → Bool) (a : AT) (m : M α) (e : Env) : chkM chk a m e = if okA chk a e = true then m e else .bad := rfl
noncomputable def okS (chk : T → Bool) : Option T → Bool
  | some t => t.isV && chk t
  | none => false
theorem okA_t (chk : T → Bool) (x : T) (e : Env) : okA chk (.t x) e = chk x := rfl
theorem okA_s (chk : T → Bool) (i : Nat) (e : Env) : okA chk (.s i) e = okS chk e[i]? := rfl
theorem okA_io (chk : T → Bool) (i : Nat) (e : Env) : okA chk (.io i) e = okS chk e[i]? := rfl
theorem okS_s (chk : T → Bool) (t : T) : okS chk (some t) = (t.isV && chk t) := rfl
theorem methE_o (chk : T → Bool) (mf : List T → Fr) (o : Opd) (os : List Opd) (e : Env) : methE chk mf o os e = (evO o e).b fun x e => if okA chk x e = true then (evA os e).b (fun as => callM mf (x :: as)) else .bad := by unfold methE; rw [rb_e]; congr; funext x e; unfold chkM; rw [rb_e]
/-- a call -/
noncomputable def Fr.c (as : List AT) (e1 : Env) : Fr → Rs T
  | .ok t os => .ok t (settle (t.fresh && os.all T.fresh) (bos as) (ios as) os e1)
  | .exc C x os => .exc C x (settle (x.fresh && os.all T.fresh) (bos as) (ios as) os e1)
  | .bad => .bad
noncomputable def callA (mf : List T → Fr) (as : List AT) (e1 : Env) : Option (List T) → Rs T
  | some ts => (mf ts).c as e1
  | none => .bad
noncomputable def callT (mf : List T → Fr) (as : List AT) : Option (List T × Env) → Rs T
  | some (js, e1) => callA mf as e1 (asm e1 as js)
  | none => .bad
theorem callM_e (mf : List T → Fr) (as : List AT) (e : Env) : callM mf as e = callT mf as (takeS (ios as) e) := by
  unfold callM callT
  cases takeS (ios as) e with
  | none => rfl
  | some p =>
    obtain ⟨js, e1⟩ := p
    unfold callA
    dsimp only
    cases asm e1 as js with
    | none => rfl
    | some ts =>
      dsimp only
      unfold Fr.c
      cases mf ts <;> simp only [freshA_all]
theorem callT_s (mf : List T → Fr) (as : List AT) (js : List T) (e1 : Env) : callT mf as (some (js, e1)) = callA mf as e1 (asm e1 as js) := rfl
theorem callA_s (mf : List T → Fr) (as : List AT) (ts : List T) (e1 : Env) : callA mf as e1 (some ts) = (mf ts).c as e1 := rfl
theorem frc_ok (as : List AT) (e1 : Env) (t : T) (os : List T) : (Fr.ok t os).c as e1 = .ok t (settle (t.fresh && os.all T.fresh) (bos as) (ios as) os e1) := rfl
theorem frc_exc (as : List AT) (e1 : Env) (C : Str) (x : T) (os : List T) : (Fr.exc C x os).c as e1 = .exc C x (settle (x.fresh && os.all T.fresh) (bos as) (ios as) os e1) := rfl
theorem settle_n (ok : Bool) (J : List Nat) (os : List T) (e : Env) : settle ok [] J os e = putS J os e := by unfold settle; split <;> rfl
theorem settle_t (I J : List Nat) (os : List T) (e : Env) : settle true I J os e = putS J os e := rfl
theorem settle_f (I J : List Nat) (os : List T) (e : Env) : settle false I J os e = putS J os (frzS I e) := rfl
theorem take_nil (e : Env) : takeS [] e = some ([], e) := rfl
noncomputable def takC (r : List Nat) (j : Nat) (e : Env) : Option T → Option (List T × Env)
  | some t => if t.isV = true then (takeS r (e.set j .unb)).map fun p => (t :: p.1, p.2) else none
  | none => none
theorem take_cons (j : Nat) (r : List Nat) (e : Env) : takeS (j :: r) e = takC r j e e[j]? := by
  unfold takC; rw [takeS]; cases e[j]? with
  | none => rfl
  | some t => dsimp only; cases takeS r (e.set j .unb) <;> rfl
theorem takC_s (r : List Nat) (j : Nat) (e : Env) (t : T) : takC r j e (some t) = if t.isV = true then (takeS r (e.set j .unb)).map fun p => (t :: p.1, p.2) else none := rfl
theorem asm_nil (e : Env) (js : List T) : asm e [] js = some [] := rfl
theorem asm_t (e : Env) (x : T) (r : List AT) (js : List T) : asm e (.t x :: r) js = (asm e r js).map (x :: ·) := rfl
theorem asm_o (e : Env) (x : T) (r : List AT) (js : List T) : asm e (.o x :: r) js = (asm e r js).map (x :: ·) := rfl
noncomputable def asmS (e : Env) (r : List AT) (js : List T) : Option T → Option (List T)
  | some t => if t.isV = true then (asm e r js).map (t.frz :: ·) else none
  | none => none
theorem asm_s (e : Env) (i : Nat) (r : List AT) (js : List T) : asm e (.s i :: r) js = asmS e r js e[i]? := rfl
theorem asmS_s (e : Env) (t : T) (r : List AT) (js : List T) : asmS e r js (some t) = if t.isV = true then (asm e r js).map (t.frz :: ·) else none := rfl
theorem asm_io (e : Env) (i : Nat) (j : T) (r : List AT) (js : List T) : asm e (.io i :: r) (j :: js) = (asm e r js).map (j :: ·) := rfl
theorem ios_nil : ios [] = [] := rfl
theorem ios_t (x : T) (r : List AT) : ios (.t x :: r) = ios r := rfl
theorem ios_o (x : T) (r : List AT) : ios (.o x :: r) = ios r := rfl
theorem ios_s (x : Nat) (r : List AT) : ios (.s x :: r) = ios r := rfl
theorem ios_io (x : Nat) (r : List AT) : ios (.io x :: r) = x :: ios r := rfl
theorem bos_nil : bos [] = [] := rfl
theorem bos_t (x : T) (r : List AT) : bos (.t x :: r) = bos r := rfl
theorem bos_o (x : T) (r : List AT) : bos (.o x :: r) = bos r := rfl
theorem bos_s (x : Nat) (r : List AT) : bos (.s x :: r) = x :: bos r := rfl
theorem bos_io (x : Nat) (r : List AT) : bos (.io x :: r) = bos r := rfl
theorem putS_nil (os : List T) (e : Env) : putS [] os e = e := by cases os <;> rfl
theorem putS_cons (j : Nat) (r : List Nat) (o : T) (os : List T) (e : Env) : putS (j :: r) (o :: os) e = putS r os (e.set j o) := rfl
noncomputable def frzC (i : Nat) (e : Env) : Option T → Env
  | some t => e.set i t.frz
  | none => e
theorem frzS_nil (e : Env) : frzS [] e = e := rfl
theorem frzS_cons (i : Nat) (r : List Nat) (e : Env) : frzS (i :: r) e = frzS r (frzC i e e[i]?) := by rw [frzS]; unfold frzC; cases e[i]? <;> rfl
theorem frzC_s (i : Nat) (e : Env) (t : T) : frzC i e (some t) = e.set i t.frz := rfl
theorem tgN_e (i : Nat) (t : T) (e : Env) : tgN i t e = if t.isV = true ∧ i < e.length then some (e.set i t) else none := rfl
noncomputable def tgU (gs : List Tgt) (e : Env) : T → Option Env
  | .tup ts => tgs gs ts e
  | _ => none
theorem tgT_e (gs : List Tgt) (t : T) (e : Env) : tgT gs t e = tgU gs e t.un := rfl
theorem tgU_t (gs : List Tgt) (ts : List T) (e : Env) : tgU gs e (.tup ts) = tgs gs ts e := rfl
theorem tgs_nl (e : Env) : tgs [] [] e = some e := rfl
theorem tgs_cn (g : Tgt) (gs : List Tgt) (t : T) (ts : List T) (e : Env) : tgs (g :: gs) (t :: ts) e = ob (g t e) (tgs gs ts) := by rw [tgs]; unfold ob; cases g t e <;> rfl
theorem ob_s (a : α) (k : α → Option β) : ob (some a) k = k a := rfl
theorem f1_e (g : T → Option T) (a : T) : f1 g [a] = Fr.o (g a.un) := rfl
theorem f2_e (g : T → T → Option T) (a b : T) : f2 g [a, b] = Fr.o (g a.un b.un) := rfl
theorem fro_s (t : T) : Fr.o (some t) = .ok t [] := rfl
theorem mkF_e (n : Nat) (io : List Bool) (m : Sm) (ts : List T) : mkF n io m ts = (m (ts ++ List.replicate (n - ts.length) .unb)).f (ioIx 0 io) := by
  unfold mkF Rt.f endF Fr.e
  cases m (ts ++ List.replicate (n - ts.length) .unb) with
  | nxt e => dsimp only; cases takeS (ioIx 0 io) e <;> rfl
  | ret t e => dsimp only; cases takeS (ioIx 0 io) e <;> rfl
  | exc C x e => dsimp only; cases takeS (ioIx 0 io) e <;> rfl
  | _ => rfl
theorem rtf_nxt (J : List Nat) (e : Env) : (Rt.nxt e).f J = Fr.e (takeS J e) (.ok .non) := rfl
theorem rtf_ret (J : List Nat) (t : T) (e : Env) : (Rt.ret t e).f J = Fr.e (takeS J e) (.ok t) := rfl
theorem rtf_exc (J : List Nat) (C : Str) (t : T) (e : Env) : (Rt.exc C t e).f J = Fr.e (takeS J e) (.exc C t) := rfl
theorem fre_s (os : List T) (e : Env) (f : List T → Fr) : Fr.e (some (os, e)) f = f os := rfl
theorem ioIx_nil (k : Nat) : ioIx k [] = [] := rfl
theorem ioIx_t (k : Nat) (r : List Bool) : ioIx k (true :: r) = k :: ioIx (k + 1) r := rfl
theorem ioIx_f (k : Nat) (r : List Bool) : ioIx k (false :: r) = ioIx (k + 1) r := rfl
noncomputable def T.bM : T → M Bool
  | .bl b => rp b
  | _ => fun _ => .bad
theorem tstB_o (m : M T) (e : Env) : tstB m e = (m e).b fun t => t.un.bM := by unfold tstB; rw [rb_e]; rfl
theorem bM_b (b : Bool) (e : Env) : (T.bl b).bM e = .ok b e := rfl
theorem truE_o (m : M T) (e : Env) : truE m e = (m e).b fun t e => Rs.o t.un.tru e := by unfold truE; rw [rb_e]; congr; funext t e; cases t.un.tru <;> rfl
theorem rso_s (a : α) (e : Env) : Rs.o (some a) e = .ok a e := rfl
theorem notM_o (k : M Bool) (e : Env) : notM k e = (k e).b fun b e => .ok (!b) e := by unfold notM; rw [rb_e]; rfl
theorem andE_o (a b : M T) (e : Env) : andE a b e = (tstB a e).b fun k e => if k = true then b e else .ok (.bl false) e := by unfold andE; rw [ifE_o]; rfl
theorem chain_o (f g : List T → Fr) (a b c : Opd) (e : Env) : chainE f g a b c e = (evO a e).b fun x e => (evO b e).b fun y e => if y.isO = true then .bad else (callM f [x, y] e).b fun k e => (k.un.bM e).b fun k e => if k = true then (evO c e).b (fun z => callM g [y, z]) else .ok (.bl false) e := by
  unfold chainE
  rw [rb_e]; congr; funext x e; rw [rb_e]; congr; funext y e
  split
  · rfl
  · rw [rb_e]; congr; funext k e
    cases k.un with
    | bl b => cases b with
      | true => simp only [bM_b, rsb_ok, if_true]; rw [rb_e]
      | false => rfl
    | _ => rfl
theorem isO_t (x : T) : (AT.t x).isO = false := rfl
theorem isO_s (x : Nat) : (AT.s x).isO = false := rfl
noncomputable def setV (mf : List T → Fr) (ov o k : Opd) (e : Env) : Rs T := (evO ov e).b fun y e => (evO o e).b fun x e => (evO k e).b fun i => callM mf [x, i, y]
theorem setS3_o (mf : List T → Fr) (ov o k : Opd) (e : Env) : setS3 mf ov o k e = (setV mf ov o k e).s fun _ e => .nxt e := by
  unfold setS3; rw [exprS_o]; congr; unfold setV; rw [rb_e]; congr; funext y e; rw [rb_e]; congr; funext x e; rw [rb_e]
theorem setV_o (mf : List T → Fr) (ov o k : Opd) (e : Env) : setV mf ov o k e = (evO ov e).b fun y e => (evO o e).b fun x e => (evO k e).b fun i => callM mf [x, i, y] := rfl
noncomputable def T.iM : T → M (Option Int)
  | .int i => rp (some i)
  | _ => fun _ => .bad
theorem part_n (e : Env) : partM none e = .ok none e := rfl
theorem part_s_o (m : M T) (e : Env) : partM (some m) e = (m e).b fun t => t.un.iM := by show rb _ _ e = _; rw [rb_e]; rfl
theorem iM_i (i : Int) (e : Env) : (T.int i).iM e = .ok (some i) e := rfl
theorem slE_o (mf : Option Int → Option Int → List T → Fr) (o : Opd) (lo hi : Option (M T)) (e : Env) : slE mf o lo hi e = (evO o e).b fun x e => (partM lo e).b fun l e => (partM hi e).b fun h => callM (mf l h) [x] := by
  unfold slE; rw [rb_e]; congr; funext y e; rw [rb_e]; congr; funext l e; rw [rb_e]
/-- walks -/
theorem itE_o (m : M T) (e : Env) : itE m e = (m e).b fun t e => Rs.o t.frz.items e := by unfold itE; rw [rb_e]; congr; funext t e; cases t.frz.items <;> rfl
noncomputable def valA (e : Env) (I : List Nat) (k : List T → M α) : Option (List T) → Rs α
  | some ts => k (ts.map fun t => t.frz.un) (frzS I e)
  | none => .bad
theorem valsM_o (os : List Opd) (k : List T → M α) (e : Env) : valsM os k e = (evA os e).b fun as e => valA e (bos as) k (asm e as []) := by
  unfold valsM; rw [rb_e]; congr; funext as e; unfold valA
  cases asm e as [] with
  | none => rfl
  | some ts => dsimp only; rw [frzA_map, List.map_map]; rfl
theorem valA_s (e : Env) (I : List Nat) (k : List T → M α) (ts : List T) : valA e I k (some ts) = k (ts.map fun t => t.frz.un) (frzS I e) := rfl
theorem rngE1_o (os : List Opd) (e : Env) : rngE1 os e = (evA os e).b fun as e => valA e (bos as) (fun ts => optM (rngT1 ts)) (asm e as []) := valsM_o _ _ _
theorem zipE_o (os : List Opd) (e : Env) : zipE os e = (evA os e).b fun as e => valA e (bos as) (fun ts => optM (zipT ts)) (asm e as []) := valsM_o _ _ _
theorem optM_s (a : α) (e : Env) : optM (some a) e = .ok a e := rfl
theorem forE_o (g : Tgt) (it : M (List T)) (b : Sm) (e : Env) : forE g it b e = (it e).s fun ts => forS g b ts := by unfold forE Rs.s; cases it e <;> rfl
theorem lcE_o (vs : List Nat) (g : Tgt) (it : M (List T)) (c : M Bool) (el : M T) (e : Env) : lcE vs g it c el e = (it e).b fun ts e => lcL vs g c el ts [] (unbS vs e) := by unfold lcE Rs.b; cases it e <;> rfl
theorem unbS_nil (e : Env) : unbS [] e = e := rfl
theorem unbS_cons (i : Nat) (r : List Nat) (e : Env) : unbS (i :: r) e = (unbS r e).set i .unb := rfl
end
theorem un_int (i : Int) : (T.int i).un = .int i := rfl
theorem un_str (i : List Nat) : (T.str i).un = .str i := rfl
theorem un_bo (i : Bool) : (T.bl i).un = .bl i := rfl
theorem un_no : (T.non).un = .non := rfl
theorem un_lst (o : Bool) (ts : List T) : (T.lst o ts).un = .lst o ts := rfl
theorem un_tup (ts : List T) : (T.tup ts).un = .tup ts := rfl
theorem un_dct (o : Bool) (ks : List Ky) (ts : List T) : (T.dct o ks ts).un = .dct o ks ts := rfl
theorem un_ins (o : Bool) (C : Str) (ns : List Str) (ts : List T) : (T.ins o C ns ts).un = .ins o C ns ts := rfl
theorem un_ty (n : String) : (T.ty n).un = .ty n := rfl
theorem un_cls (n : Str) : (T.cls n).un = .cls n := rfl
theorem un_sq (n : List Int) : (T.sq n).un = .sq n := rfl
theorem isV_int (i : Int) : (T.int i).isV = true := rfl
theorem isV_str (i : List Nat) : (T.str i).isV = true := rfl
theorem isV_bl (i : Bool) : (T.bl i).isV = true := rfl
theorem isV_non : (T.non).isV = true := rfl
theorem isV_lst (o : Bool) (ts : List T) : (T.lst o ts).isV = true := rfl
theorem isV_tup (ts : List T) : (T.tup ts).isV = true := rfl
theorem isV_dct (o : Bool) (ks : List Ky) (ts : List T) : (T.dct o ks ts).isV = true := rfl
theorem isV_ins (o : Bool) (C : Str) (ns : List Str) (ts : List T) : (T.ins o C ns ts).isV = true := rfl
theorem isV_sq (n : List Int) : (T.sq n).isV = true := rfl
theorem isV_unb : T.unb.isV = false := rfl
theorem frz_int (i : Int) : (T.int i).frz = .int i := rfl
theorem frz_str (i : List Nat) : (T.str i).frz = .str i := rfl
theorem frz_bl (i : Bool) : (T.bl i).frz = .bl i := rfl
theorem frz_non : (T.non).frz = .non := rfl
theorem frz_lst (o : Bool) (ts : List T) : (T.lst o ts).frz = .lst false (ts.map T.frz) := by rw [T.frz, frzA_map]
theorem frz_tup (ts : List T) : (T.tup ts).frz = .tup (ts.map T.frz) := by rw [T.frz, frzA_map]
theorem frz_dct (o : Bool) (ks : List Ky) (ts : List T) : (T.dct o ks ts).frz = .dct false ks (ts.map T.frz) := by rw [T.frz, frzA_map]
theorem frz_ins (o : Bool) (C : Str) (ns : List Str) (ts : List T) : (T.ins o C ns ts).frz = .ins false C ns (ts.map T.frz) := by rw [T.frz, frzA_map]
theorem frz_sq (n : List Int) : (T.sq n).frz = .sq n := rfl
theorem frz_ty (n : String) : (T.ty n).frz = .ty n := rfl
theorem frz_cls (n : Str) : (T.cls n).frz = .cls n := rfl
theorem frz_unb : T.unb.frz = .unb := rfl
theorem fr_int (i : Int) : (T.int i).fresh = true := rfl
theorem fr_str (i : List Nat) : (T.str i).fresh = true := rfl
theorem fr_bl (i : Bool) : (T.bl i).fresh = true := rfl
theorem fr_non : (T.non).fresh = true := rfl
theorem fr_lst (o : Bool) (ts : List T) : (T.lst o ts).fresh = (o && ts.all T.fresh) := by rw [T.fresh, freshA_all]
theorem fr_tup (ts : List T) : (T.tup ts).fresh = ts.all T.fresh := by rw [T.fresh, freshA_all]
theorem fr_dct (o : Bool) (ks : List Ky) (ts : List T) : (T.dct o ks ts).fresh = (o && ts.all T.fresh) := by rw [T.fresh, freshA_all]
theorem fr_ins (o : Bool) (C : Str) (ns : List Str) (ts : List T) : (T.ins o C ns ts).fresh = (o && ts.all T.fresh) := by rw [T.fresh, freshA_all]
theorem fr_sq (n : List Int) : (T.sq n).fresh = false := rfl
theorem frz_strs (ls : List (List Nat)) : (ls.map T.str).map T.frz = ls.map .str := by rw [List.map_map]; rfl
theorem frz_ints (ls : List Int) : (ls.map T.int).map T.frz = ls.map .int := by rw [List.map_map]; rfl
theorem fr_strs (ls : List (List Nat)) : (ls.map T.str).all T.fresh = true := by rw [List.all_map, List.all_eq_true]; intros; rfl
theorem fr_ints (ls : List Int) : (ls.map T.int).all T.fresh = true := by rw [List.all_map, List.all_eq_true]; intros; rfl
theorem add_ii (i j : Int) : addT (.int i) (.int j) = some (.int (i + j)) := rfl
theorem add_ss (s u : List Nat) (h : s.length + u.length ≤ 1000000) : addT (.str s) (.str u) = some (.str (s ++ u)) := if_pos h
theorem add_ll (o p : Bool) (s u : List T) (h : s.length + u.length ≤ 1000000) : addT (.lst o s) (.lst p u) = some (.lst true (s ++ u)) := if_pos h
theorem add_tt (s u : List T) (h : s.length + u.length ≤ 1000000) : addT (.tup s) (.tup u) = some (.tup (s ++ u)) := if_pos h
theorem sub_ii (i j : Int) : subT (.int i) (.int j) = some (.int (i - j)) := rfl
theorem mul_ii (i j : Int) (h : (-18446744073709551616 < i ∧ i < 18446744073709551616) ∨ (-18446744073709551616 < j ∧ j < 18446744073709551616)) : mulT (.int i) (.int j) = some (.int (i * j)) := if_pos h
theorem mod_ii (i j : Int) (h : 0 < j) : modT (.int i) (.int j) = some (.int (i % j)) := if_pos h
theorem div_ii (i j : Int) (h : 0 < j ∧ j < 1606938044258990275541962092341162602522202993782792835301376) : divT (.int i) (.int j) = some (.int (i / j)) := if_pos h
theorem pow_ii (i j : Int) (h : 0 ≤ j ∧ j ≤ 1000000 ∧ -18446744073709551616 < i ∧ i < 18446744073709551616) : powT (.int i) (.int j) = some (.int (i ^ j.toNat)) := by
  show (if 0 ≤ j ∧ j ≤ 1000000 ∧ i.natAbs < 2 ^ 64 then some (T.int (i ^ j.toNat)) else none) = _
  rw [if_pos (by omega)]
theorem neg_i (i : Int) : negT (.int i) = some (.int (-i)) := rfl
theorem lt_ii (i j : Int) : ltT (.int i) (.int j) = some (.bl (decide (i < j))) := rfl
theorem lt_ss (i j : List Nat) : ltT (.str i) (.str j) = some (.bl (decide (i < j))) := rfl
theorem le_ii (i j : Int) : leT (.int i) (.int j) = some (.bl (decide (i ≤ j))) := rfl
theorem gt_ii (i j : Int) : gtT (.int i) (.int j) = some (.bl (decide (j < i))) := rfl
theorem eq_ii (i j : Int) : eqT (.int i) (.int j) = some (.bl (decide (i = j))) := rfl
theorem eq_ss (i j : List Nat) : eqT (.str i) (.str j) = some (.bl (decide (i = j))) := rfl
theorem eq_bb (i j : Bool) : eqT (.bl i) (.bl j) = some (.bl (decide (i = j))) := rfl
theorem ne_ii (i j : Int) : neT (.int i) (.int j) = some (.bl (!decide (i = j))) := rfl
theorem ne_ss (i j : List Nat) : neT (.str i) (.str j) = some (.bl (!decide (i = j))) := rfl
theorem ne_bb (i j : Bool) : neT (.bl i) (.bl j) = some (.bl (!decide (i = j))) := rfl
theorem ix_l (o : Bool) (ts : List T) (i : Int) : ixT (.lst o ts) (.int i) = atI ts i := rfl
theorem ix_t (ts : List T) (i : Int) : ixT (.tup ts) (.int i) = atI ts i := rfl
theorem ix_s (s : List Nat) (i : Int) (h : s.length ≤ 1000000) : ixT (.str s) (.int i) = (atI s i).map fun c => .str [c] := if_pos h
theorem ix_sq (ns : List Int) (i : Int) : ixT (.sq ns) (.int i) = (atI ns i).map .int := rfl
theorem sl_s (lo hi : Option Int) (s : List Nat) (h : s.length ≤ 1000000) : slT lo hi (.str s) = some (.str (cutA s lo hi)) := if_pos h
theorem sl_l (lo hi : Option Int) (o : Bool) (s : List T) : slT lo hi (.lst o s) = some (.lst true (cutA s lo hi)) := rfl
theorem sl_t (lo hi : Option Int) (s : List T) : slT lo hi (.tup s) = some (.tup (cutA s lo hi)) := rfl
theorem len_s (s : List Nat) (h : s.length ≤ 1000000) : lenT (.str s) = some (.int s.length) := if_pos h
theorem len_l (o : Bool) (s : List T) : lenT (.lst o s) = some (.int s.length) := rfl
theorem len_t (s : List T) : lenT (.tup s) = some (.int s.length) := rfl
theorem len_sq (s : List Int) : lenT (.sq s) = some (.int s.length) := rfl
theorem len_d (o : Bool) (ks : List Ky) (s : List T) : lenT (.dct o ks s) = some (.int ks.length) := rfl
theorem max_ii (i j : Int) : maxT (.int i) (.int j) = some (.int (max i j)) := rfl
theorem min_ii (i j : Int) : minT (.int i) (.int j) = some (.int (min i j)) := rfl
theorem tru_b (b : Bool) : (T.bl b).tru = some b := rfl
theorem list_l (o : Bool) (s : List T) : listT (.lst o s) = some (.lst true s) := rfl
theorem list_t (s : List T) : listT (.tup s) = some (.lst true s) := rfl
theorem tuple_l (o : Bool) (s : List T) : tupleT (.lst o s) = some (.tup s) := rfl
theorem tuple_t (s : List T) : tupleT (.tup s) = some (.tup s) := rfl
theorem lstF_e (ts : List T) (h : ts.length ≤ 1000000) : lstF' ts = .ok (.lst true ts) [] := if_pos h
theorem tupF_e (ts : List T) (h : ts.length ≤ 1000000) : tupF' ts = .ok (.tup ts) [] := if_pos h
theorem app_e (ts : List T) (y : T) (h : ts.length < 1000000) : appF [.lst true ts, y] = .ok .non [.lst true (ts ++ [y])] := if_pos h
theorem clr_e (ts : List T) : clrF [.lst true ts] = .ok .non [.lst true []] := rfl
theorem set_e (us : List T) (k : Int) (y : T) (h : 0 ≤ k ∧ k < us.length) : setF [.lst true us, .int k, y] = .ok .non [.lst true (us.set k.toNat y)] := by
  have : ixN us.length k = some k.toNat := by unfold ixN; rw [if_pos h.1, if_pos h.2]
  unfold setF; simp only [un_lst, un_int, this]
theorem items_l (o : Bool) (ts : List T) : (T.lst o ts).items = some ts := rfl
theorem items_t (ts : List T) : (T.tup ts).items = some ts := rfl
theorem items_s (s : List Nat) : (T.str s).items = some (s.map fun c => .str [c]) := rfl
theorem rng1 (n : Int) (h : n < 4611686018427387904 ∧ -4611686018427387904 ≤ n) : rngT1 [.int n] = some ((List.range n.toNat).map fun i : Nat => .int i) := if_pos h
theorem zip_l (o p : Bool) (us ws : List T) : zipT [.lst o us, .lst p ws] = some ((us.zip ws).map fun p => .tup [p.1, p.2]) := rfl
theorem chkL_l (o : Bool) (us : List T) : chkL (.lst o us) = true := rfl
theorem chkS_s (s : List Nat) : chkS (.str s) = true := rfl
theorem join_l (a : List Nat) (o : Bool) (ls : List (List Nat)) (h : (ls.map (·.length)).sum + ls.length * a.length ≤ 1000000) : joinT (.str a) (.lst o (ls.map .str)) = some (.str (TL.joinL a ls)) := by
  have : strsOf (ls.map T.str) = some ls := by
    induction ls with
    | nil => rfl
    | cons l ls ih => rw [List.map_cons, strsOf, ih (by simp only [List.map_cons, List.sum_cons, List.length_cons, Nat.add_mul] at h; omega)]; rfl
  unfold joinT; dsimp only; rw [this]; exact if_pos h
theorem dle_t (a b : Int) (h : a ≤ b) : decide (a ≤ b) = true := decide_eq_true h
theorem dle_f (a b : Int) (h : b < a) : decide (a ≤ b) = false := decide_eq_false (by omega)
theorem dlt_t (a b : Int) (h : a < b) : decide (a < b) = true := decide_eq_true h
theorem dlt_f (a b : Int) (h : b ≤ a) : decide (a < b) = false := decide_eq_false (by omega)
theorem deq_t (a b : Int) (h : a = b) : decide (a = b) = true := decide_eq_true h
theorem deq_f (a b : Int) (h : a < b ∨ b < a) : decide (a = b) = false := decide_eq_false (by omega)
section
variable {α β γ : Type}
noncomputable def kNxt : α → Sm := fun _ e => .nxt e
theorem kNxt_e (a : α) (e : Env) : kNxt a e = .nxt e := rfl
noncomputable def kRet : T → Sm := fun t e => .ret t e
theorem kRet_e (t : T) (e : Env) : kRet t e = .ret t e := rfl
noncomputable def kExc (C : Str) : T → Sm := fun t e => .exc C t e
theorem kExc_e (C : Str) (t : T) (e : Env) : kExc C t e = .exc C t e := rfl
noncomputable def kAsg (g : Tgt) : T → Sm := fun t e => optR .nxt (g t e)
theorem kAsg_e (g : Tgt) (t : T) (e : Env) : kAsg g t e = optR .nxt (g t e) := rfl
theorem exprS_e (m : M T) (e : Env) : exprS m e = (m e).s kNxt := (exprS_o m e).trans rfl
theorem retS_e (m : M T) (e : Env) : retS m e = (m e).s kRet := (retS_o m e).trans rfl
theorem raiseS_e (C : Str) (m : M T) (e : Env) : raiseS C m e = (m e).s (kExc C) := (raiseS_o C m e).trans rfl
theorem asgS_e (g : Tgt) (m : M T) (e : Env) : asgS g m e = (m e).s (kAsg g) := (asgS_o g m e).trans rfl
noncomputable def kIfS (a b : Sm) : Bool → Sm := fun k e => if k = true then a e else b e
theorem kIfS_t (a b : Sm) (e : Env) : kIfS a b true e = a e := rfl
theorem kIfS_f (a b : Sm) (e : Env) : kIfS a b false e = b e := rfl
theorem ifS_e (c : M Bool) (a b : Sm) (e : Env) : ifS c a b e = (c e).s (kIfS a b) := (ifS_o c a b e).trans rfl
noncomputable def kIfE (a b : M α) : Bool → M α := fun k e => if k = true then a e else b e
theorem kIfE_t (a b : M α) (e : Env) : kIfE a b true e = a e := rfl
theorem kIfE_f (a b : M α) (e : Env) : kIfE a b false e = b e := rfl
theorem ifE_e (c : M Bool) (a b : M α) (e : Env) : ifE c a b e = (c e).b (kIfE a b) := (ifE_o c a b e).trans rfl
noncomputable def kC1 (mf : List T → Fr) : AT → M T := fun x => callM mf [x]
theorem kC1_e (mf : List T → Fr) (x : AT) (e : Env) : kC1 mf x e = callM mf [x] e := rfl
theorem callE1_e (mf : List T → Fr) (a : Opd) (e : Env) : callE1 mf a e = (evO a e).b (kC1 mf) := (callE1_o mf a e).trans rfl
noncomputable def kD2 (mf : List T → Fr) (x : AT) : AT → M T := fun y => callM mf [x, y]
theorem kD2_e (mf : List T → Fr) (x y : AT) (e : Env) : kD2 mf x y e = callM mf [x, y] e := rfl
noncomputable def kC2 (mf : List T → Fr) (b : Opd) : AT → M T := fun x e => (evO b e).b (kD2 mf x)
theorem kC2_e (mf : List T → Fr) (b : Opd) (x : AT) (e : Env) : kC2 mf b x e = (evO b e).b (kD2 mf x) := rfl
theorem callE2_e (mf : List T → Fr) (a b : Opd) (e : Env) : callE2 mf a b e = (evO a e).b (kC2 mf b) := (callE2_o mf a b e).trans rfl
noncomputable def kA2 (a : AT) : List AT → M (List AT) := fun as e => .ok (a :: as) e
theorem kA2_e (a : AT) (as : List AT) (e : Env) : kA2 a as e = .ok (a :: as) e := rfl
noncomputable def kA (os : List Opd) : AT → M (List AT) := fun a e => (evA os e).b (kA2 a)
theorem kA_e (os : List Opd) (a : AT) (e : Env) : kA os a e = (evA os e).b (kA2 a) := rfl
theorem evA_cons (o : Opd) (os : List Opd) (e : Env) : evA (o :: os) e = (evO o e).b (kA os) := (evA_cons_o o os e).trans rfl
noncomputable def kVal : T → M AT := fun t e => .ok (.t t.frz) e
theorem kVal_e (t : T) (e : Env) : kVal t e = .ok (.t t.frz) e := rfl
noncomputable def kOwn : T → M AT := fun t e => .ok (.o t) e
theorem kOwn_e (t : T) (e : Env) : kOwn t e = .ok (.o t) e := rfl
theorem evO_val (m : M T) (e : Env) : evO (.val m) e = (m e).b kVal := (evO_val_o m e).trans rfl
theorem evO_own (m : M T) (e : Env) : evO (.own m) e = (m e).b kOwn := (evO_own_o m e).trans rfl
noncomputable def seK (r : Rs α) : Bool → Rs α
  | true => r
  | false => .bad
theorem seK_t (r : Rs α) : seK r true = r := rfl
noncomputable def seS (e : Env) (i : Nat) : Option T → Rs AT
  | some t => seK (.ok (.s i) e) t.isV
  | none => .bad
theorem seS_s (e : Env) (i : Nat) (t : T) : seS e i (some t) = seK (.ok (.s i) e) t.isV := rfl
theorem evO_s (i : Nat) (e : Env) : evO (.sl i) e = seS e i e[i]? := by
  rw [evO_s_o]; unfold sel seS seK; cases e[i]? with
  | none => rfl
  | some t => dsimp only; cases t.isV <;> rfl
noncomputable def seI (e : Env) (i : Nat) : Option T → Rs AT
  | some t => seK (.ok (.io i) e) t.isV
  | none => .bad
theorem seI_s (e : Env) (i : Nat) (t : T) : seI e i (some t) = seK (.ok (.io i) e) t.isV := rfl
theorem evO_io (i : Nat) (e : Env) : evO (.io i) e = seI e i e[i]? := by
  rw [evO_io_o]; unfold sel seI seK; cases e[i]? with
  | none => rfl
  | some t => dsimp only; cases t.isV <;> rfl
noncomputable def seC (e : Env) (i : Nat) : Option T → Rs T
  | some t => seK (.ok t.frz (e.set i t.frz)) t.isV
  | none => .bad
theorem seC_s (e : Env) (i : Nat) (t : T) : seC e i (some t) = seK (.ok t.frz (e.set i t.frz)) t.isV := rfl
theorem cpE_e (i : Nat) (e : Env) : cpE i e = seC e i e[i]? := by
  rw [cpE_o]; unfold sel seC seK; cases e[i]? with
  | none => rfl
  | some t => dsimp only; cases t.isV <;> rfl
noncomputable def seM (e : Env) (i : Nat) : Option T → Rs T
  | some t => seK (.ok t (e.set i .unb)) t.isV
  | none => .bad
theorem seM_s (e : Env) (i : Nat) (t : T) : seM e i (some t) = seK (.ok t (e.set i .unb)) t.isV := rfl
theorem mvE_e (i : Nat) (e : Env) : mvE i e = seM e i e[i]? := by
  rw [mvE_o]; unfold sel seM seK; cases e[i]? with
  | none => rfl
  | some t => dsimp only; cases t.isV <;> rfl
noncomputable def kCh (a b : Opd) : Bool → M AT := fun k e => if k = true then evO a e else evO b e
theorem kCh_t (a b : Opd) (e : Env) : kCh a b true e = evO a e := rfl
theorem kCh_f (a b : Opd) (e : Env) : kCh a b false e = evO b e := rfl
theorem evO_ch (c : M Bool) (a b : Opd) (e : Env) : evO (.ch c a b) e = (c e).b (kCh a b) := (evO_ch_o c a b e).trans rfl
noncomputable def kM2 (mf : List T → Fr) (x : AT) : List AT → M T := fun as => callM mf (x :: as)
theorem kM2_e (mf : List T → Fr) (x : AT) (as : List AT) (e : Env) : kM2 mf x as e = callM mf (x :: as) e := rfl
noncomputable def kM1 (mf : List T → Fr) (os : List Opd) (x : AT) (e : Env) : Bool → Rs T := fun k => if k = true then (evA os e).b (kM2 mf x) else .bad
theorem kM1_t (mf : List T → Fr) (os : List Opd) (x : AT) (e : Env) : kM1 mf os x e true = (evA os e).b (kM2 mf x) := rfl
noncomputable def kM (chk : T → Bool) (mf : List T → Fr) (os : List Opd) : AT → M T := fun x e => kM1 mf os x e (okA chk x e)
theorem kM_e (chk : T → Bool) (mf : List T → Fr) (os : List Opd) (x : AT) (e : Env) : kM chk mf os x e = kM1 mf os x e (okA chk x e) := rfl
theorem methE_e (chk : T → Bool) (mf : List T → Fr) (o : Opd) (os : List Opd) (e : Env) : methE chk mf o os e = (evO o e).b (kM chk mf os) := (methE_o chk mf o os e).trans rfl
noncomputable def kTst : T → M Bool := fun t => t.un.bM
theorem kTst_e (t : T) (e : Env) : kTst t e = t.un.bM e := rfl
theorem tstB_e (m : M T) (e : Env) : tstB m e = (m e).b kTst := (tstB_o m e).trans rfl
noncomputable def kTru : T → M Bool := fun t e => Rs.o t.un.tru e
theorem kTru_e (t : T) (e : Env) : kTru t e = Rs.o t.un.tru e := rfl
theorem truE_e (m : M T) (e : Env) : truE m e = (m e).b kTru := (truE_o m e).trans rfl
noncomputable def kNot : Bool → M Bool := fun b e => .ok (!b) e
theorem kNot_e (b : Bool) (e : Env) : kNot b e = .ok (!b) e := rfl
theorem notM_e (k : M Bool) (e : Env) : notM k e = (k e).b kNot := (notM_o k e).trans rfl
noncomputable def kAnd (b : M T) : Bool → M T := fun k e => if k = true then b e else .ok (.bl false) e
theorem kAnd_t (b : M T) (e : Env) : kAnd b true e = b e := rfl
theorem kAnd_f (b : M T) (e : Env) : kAnd b false e = .ok (.bl false) e := rfl
theorem andE_e (a b : M T) (e : Env) : andE a b e = (tstB a e).b (kAnd b) := (andE_o a b e).trans rfl
noncomputable def kX5 (g : List T → Fr) (c : Opd) (y : AT) : Bool → M T := fun k e => if k = true then (evO c e).b (kD2 g y) else .ok (.bl false) e
theorem kX5_t (g : List T → Fr) (c : Opd) (y : AT) (e : Env) : kX5 g c y true e = (evO c e).b (kD2 g y) := rfl
theorem kX5_f (g : List T → Fr) (c : Opd) (y : AT) (e : Env) : kX5 g c y false e = .ok (.bl false) e := rfl
noncomputable def kX4 (g : List T → Fr) (c : Opd) (y : AT) : T → M T := fun t e => (t.un.bM e).b (kX5 g c y)
theorem kX4_e (g : List T → Fr) (c : Opd) (y : AT) (t : T) (e : Env) : kX4 g c y t e = (t.un.bM e).b (kX5 g c y) := rfl
noncomputable def kX3 (f g : List T → Fr) (c : Opd) (x y : AT) (e : Env) : Bool → Rs T := fun k => if k = true then .bad else (callM f [x, y] e).b (kX4 g c y)
theorem kX3_f (f g : List T → Fr) (c : Opd) (x y : AT) (e : Env) : kX3 f g c x y e false = (callM f [x, y] e).b (kX4 g c y) := rfl
noncomputable def kX2 (f g : List T → Fr) (c : Opd) (x : AT) : AT → M T := fun y e => kX3 f g c x y e y.isO
theorem kX2_e (f g : List T → Fr) (c : Opd) (x y : AT) (e : Env) : kX2 f g c x y e = kX3 f g c x y e y.isO := rfl
noncomputable def kX1 (f g : List T → Fr) (b c : Opd) : AT → M T := fun x e => (evO b e).b (kX2 f g c x)
theorem kX1_e (f g : List T → Fr) (b c : Opd) (x : AT) (e : Env) : kX1 f g b c x e = (evO b e).b (kX2 f g c x) := rfl
theorem chain_e (f g : List T → Fr) (a b c : Opd) (e : Env) : chainE f g a b c e = (evO a e).b (kX1 f g b c) := (chain_o f g a b c e).trans rfl
noncomputable def kS3 (mf : List T → Fr) (y x : AT) : AT → M T := fun i => callM mf [x, i, y]
theorem kS3_e (mf : List T → Fr) (y x i : AT) (e : Env) : kS3 mf y x i e = callM mf [x, i, y] e := rfl
noncomputable def kS2 (mf : List T → Fr) (k : Opd) (y : AT) : AT → M T := fun x e => (evO k e).b (kS3 mf y x)
theorem kS2_e (mf : List T → Fr) (k : Opd) (y x : AT) (e : Env) : kS2 mf k y x e = (evO k e).b (kS3 mf y x) := rfl
noncomputable def kS1 (mf : List T → Fr) (o k : Opd) : AT → M T := fun y e => (evO o e).b (kS2 mf k y)
theorem kS1_e (mf : List T → Fr) (o k : Opd) (y : AT) (e : Env) : kS1 mf o k y e = (evO o e).b (kS2 mf k y) := rfl
theorem setV_e (mf : List T → Fr) (ov o k : Opd) (e : Env) : setV mf ov o k e = (evO ov e).b (kS1 mf o k) := (setV_o mf ov o k e).trans rfl
theorem setS3_e (mf : List T → Fr) (ov o k : Opd) (e : Env) : setS3 mf ov o k e = (setV mf ov o k e).s kNxt := (setS3_o mf ov o k e).trans rfl
noncomputable def kPart : T → M (Option Int) := fun t => t.un.iM
theorem kPart_e (t : T) (e : Env) : kPart t e = t.un.iM e := rfl
theorem part_s (m : M T) (e : Env) : partM (some m) e = (m e).b kPart := (part_s_o m e).trans rfl
noncomputable def kL3 (mf : Option Int → Option Int → List T → Fr) (x : AT) (l : Option Int) : Option Int → M T := fun h => callM (mf l h) [x]
theorem kL3_e (mf : Option Int → Option Int → List T → Fr) (x : AT) (l h : Option Int) (e : Env) : kL3 mf x l h e = callM (mf l h) [x] e := rfl
noncomputable def kL2 (mf : Option Int → Option Int → List T → Fr) (hi : Option (M T)) (x : AT) : Option Int → M T := fun l e => (partM hi e).b (kL3 mf x l)
theorem kL2_e (mf : Option Int → Option Int → List T → Fr) (hi : Option (M T)) (x : AT) (l : Option Int) (e : Env) : kL2 mf hi x l e = (partM hi e).b (kL3 mf x l) := rfl
noncomputable def kL1 (mf : Option Int → Option Int → List T → Fr) (lo hi : Option (M T)) : AT → M T := fun x e => (partM lo e).b (kL2 mf hi x)
theorem kL1_e (mf : Option Int → Option Int → List T → Fr) (lo hi : Option (M T)) (x : AT) (e : Env) : kL1 mf lo hi x e = (partM lo e).b (kL2 mf hi x) := rfl
theorem slE_e (mf : Option Int → Option Int → List T → Fr) (o : Opd) (lo hi : Option (M T)) (e : Env) : slE mf o lo hi e = (evO o e).b (kL1 mf lo hi) := (slE_o mf o lo hi e).trans rfl
noncomputable def kIt : T → M (List T) := fun t e => Rs.o t.frz.items e
theorem kIt_e (t : T) (e : Env) : kIt t e = Rs.o t.frz.items e := rfl
theorem itE_e (m : M T) (e : Env) : itE m e = (m e).b kIt := (itE_o m e).trans rfl
noncomputable def kVs (k : List T → M α) : List AT → M α := fun as e => valA e (bos as) k (asm e as [])
theorem kVs_e (k : List T → M α) (as : List AT) (e : Env) : kVs k as e = valA e (bos as) k (asm e as []) := rfl
noncomputable def kR1 : List T → M (List T) := fun ts => optM (rngT1 ts)
theorem kR1_e (ts : List T) (e : Env) : kR1 ts e = optM (rngT1 ts) e := rfl
noncomputable def kZi : List T → M (List T) := fun ts => optM (zipT ts)
theorem kZi_e (ts : List T) (e : Env) : kZi ts e = optM (zipT ts) e := rfl
theorem rngE1_e (os : List Opd) (e : Env) : rngE1 os e = (evA os e).b (kVs kR1) := (rngE1_o os e).trans rfl
theorem zipE_e (os : List Opd) (e : Env) : zipE os e = (evA os e).b (kVs kZi) := (zipE_o os e).trans rfl
theorem forE_e (g : Tgt) (it : M (List T)) (b : Sm) (e : Env) : forE g it b e = (it e).s (forS g b) := (forE_o g it b e).trans rfl
noncomputable def kLc (vs : List Nat) (g : Tgt) (c : M Bool) (el : M T) : List T → M T := fun ts e => lcL vs g c el ts [] (unbS vs e)
theorem kLc_e (vs : List Nat) (g : Tgt) (c : M Bool) (el : M T) (ts : List T) (e : Env) : kLc vs g c el ts e = lcL vs g c el ts [] (unbS vs e) := rfl
theorem lcE_e (vs : List Nat) (g : Tgt) (it : M (List T)) (c : M Bool) (el : M T) (e : Env) : lcE vs g it c el e = (it e).b (kLc vs g c el) := (lcE_o vs g it c el e).trans rfl
end
end En
set_option maxRecDepth 100000
set_option maxHeartbeats 1000000
namespace En
open PySem PySem.Spec PyProof.Rows L2 Gk
section
variable {α β γ : Type}
noncomputable def Rt.lp (k : Sm) : Rt → Rt
  | .nxt e => k e
  | .cnt e => k e
  | .brk e => .nxt e
  | r => r
theorem forS_c (g : Tgt) (b : Sm) (t : T) (ts : List T) (e : Env) : forS g b (t :: ts) e = (optR b (g t e)).lp (forS g b ts) := by
  rw [forS]
  show (match g t e with
    | none => Rt.bad
    | some e1 => match b e1 with
      | .nxt e2 => forS g b ts e2
      | .cnt e2 => forS g b ts e2
      | .brk e2 => .nxt e2
      | r => r) = _
  cases hg : g t e with
  | none => rfl
  | some e1 => show _ = (b e1).lp _; dsimp only; cases b e1 <;> rfl
theorem forS_n (g : Tgt) (b : Sm) (e : Env) : forS g b [] e = .nxt e := rfl
theorem lp_nxt (k : Sm) (e : Env) : (Rt.nxt e).lp k = k e := rfl
theorem lp_cnt (k : Sm) (e : Env) : (Rt.cnt e).lp k = k e := rfl
theorem lp_brk (k : Sm) (e : Env) : (Rt.brk e).lp k = .nxt e := rfl
theorem lp_ret (k : Sm) (t : T) (e : Env) : (Rt.ret t e).lp k = .ret t e := rfl
theorem lp_exc (k : Sm) (C : Str) (t : T) (e : Env) : (Rt.exc C t e).lp k = .exc C t e := rfl
/-- a loop that may hand on early -/
noncomputable def PE (Q : Env → Prop) (R : Rt → Prop) : Rt → Prop
  | .nxt e => Q e
  | .cnt e => Q e
  | r => R r
noncomputable def optB (k : Env → Rs α) : Option Env → Rs α
  | some e => k e
  | none => .bad
theorem optB_s (k : Env → Rs α) (e : Env) : optB k (some e) = k e := rfl
noncomputable def lcB (vs : List Nat) (g : Tgt) (c : M Bool) (el : M T) (t : T) (e : Env) : Rs (Option T) := optB (fun e1 => (c e1).b fun k e2 => if k = true then (el e2).b fun y e3 => .ok (some y) (unbS vs e3) else .ok none (unbS vs e2)) (g t e)
noncomputable def kB3 (vs : List Nat) : T → M (Option T) := fun y e => .ok (some y) (unbS vs e)
theorem kB3_e (vs : List Nat) (y : T) (e : Env) : kB3 vs y e = .ok (some y) (unbS vs e) := rfl
noncomputable def kB2 (vs : List Nat) (el : M T) : Bool → M (Option T) := fun k e => if k = true then (el e).b (kB3 vs) else .ok none (unbS vs e)
theorem kB2_t (vs : List Nat) (el : M T) (e : Env) : kB2 vs el true e = (el e).b (kB3 vs) := rfl
theorem kB2_f (vs : List Nat) (el : M T) (e : Env) : kB2 vs el false e = .ok none (unbS vs e) := rfl
noncomputable def kB1 (vs : List Nat) (c : M Bool) (el : M T) : Env → Rs (Option T) := fun e => (c e).b (kB2 vs el)
theorem kB1_e (vs : List Nat) (c : M Bool) (el : M T) (e : Env) : kB1 vs c el e = (c e).b (kB2 vs el) := rfl
theorem lcB_e (vs : List Nat) (g : Tgt) (c : M Bool) (el : M T) (t : T) (e : Env) : lcB vs g c el t e = optB (kB1 vs c el) (g t e) := rfl
theorem lcL_c {vs : List Nat} {g : Tgt} {c : M Bool} {el : M T} {t : T} {ts acc : List T} {e e' : Env} {o : Option T} (h : lcB vs g c el t e = .ok o e') (hl : acc.length < lim) : lcL vs g c el (t :: ts) acc e = lcL vs g c el ts (acc ++ o.toList) e' := by
  unfold lcB at h
  rw [lcL]; dsimp only
  cases hg : g t e with
  | none => rw [hg] at h; cases h
  | some e1 =>
    rw [hg, optB_s] at h
    dsimp only
    cases hc : c e1 with
    | ok k e2 =>
      rw [hc, rsb_ok] at h
      dsimp only
      by_cases hk : k = true
      · rw [if_pos hk] at h ⊢
        cases he : el e2 with
        | ok y e3 => rw [he] at h; cases h; dsimp only; rw [if_pos hl]; rfl
        | _ => rw [he] at h; cases h
      · rw [if_neg hk] at h ⊢
        cases h; rw [Option.toList, List.append_nil]
    | _ => rw [hc] at h; cases h
end
theorem da_str (s : List Nat) : (T.str s).data = some (.str (tx s)) := rfl
theorem da_lst (o : Bool) (ts : List T) : (T.lst o ts).data = (T.dataA ts).map .list := by rw [T.data]
theorem da_tup (ts : List T) : (T.tup ts).data = (T.dataA ts).map .tuple := by rw [T.data]
theorem dat_nil : T.dataA [] = some [] := by rw [T.dataA]
theorem dat_cons {t : T} {ts : List T} {d : PyData} {ds : List PyData} (h : t.data = some d) (hs : T.dataA ts = some ds) : T.dataA (t :: ts) = some (d :: ds) := by rw [T.dataA, h, hs]
mutual
theorem data_frz : ∀ t : T, t.frz.data = t.data
  | .lst o ts => by rw [T.frz, T.data, T.data, dataA_frz ts]
  | .tup ts => by rw [T.frz, T.data, T.data, dataA_frz ts]
  | .dct o ks ts => by rw [T.frz, T.data, T.data, dataA_frz ts]
  | .ins o C ns ts => by rw [T.frz, T.data, T.data] <;> simp
  | .atv v t => by rw [T.frz, T.data, T.data, data_frz t]
  | .unb => rfl
  | .non => rfl
  | .bl _ => rfl
  | .int _ => rfl
  | .str _ => rfl
  | .sq _ => rfl
  | .exn _ _ => rfl
  | .ty _ => rfl
  | .cls _ => rfl
  | .ptr _ _ => rfl
theorem dataA_frz : ∀ ts : List T, T.dataA (T.frzA ts) = T.dataA ts
  | [] => rfl
  | t :: ts => by rw [T.frzA, T.dataA, T.dataA, data_frz t, dataA_frz ts]
end
structure Wd (d : PyData) (n m : Nat) : Prop where
  sh : d.showable = true
  ls : PySem.PyData.leavesShort 41 d = true
  wt : PySem.PyData.weight d ≤ n
  dp : d.depth ≤ m
structure WdA (ds : List PyData) (n m : Nat) : Prop where
  sh : PyData.showableAll ds = true
  ls : PySem.PyData.leavesShortAll 41 ds = true
  wt : PySem.PyData.weightAll ds ≤ n
  dp : PyData.depthAll ds ≤ m
theorem Wd.fits {d : PyData} {n m : Nat} (h : Wd d n m) (hn : n ≤ 2 ^ 18) : d.shown.length ≤ sizeLine := by
  have h1 := PySem.PyData.shown_le 41 (by decide) d h.ls
  have h2 := h.wt
  have h3 : (41 + 2) * PySem.PyData.weight d ≤ 43 * 262144 := Nat.mul_le_mul (by omega) (by omega)
  rw [sizeLine_eq]
  omega
theorem Wd.none : Wd .none 0 0 := ⟨rfl, rfl, Nat.le_refl _, Nat.le_refl _⟩
theorem Wd.bool (b : Bool) : Wd (.bool b) 0 0 := ⟨rfl, rfl, Nat.le_refl _, Nat.le_refl _⟩
theorem Wd.int {i : Int} (h : i.natAbs < 10 ^ 40) : Wd (.int i) 134 0 := by
  have lg : i.natAbs.log2 < 133 := by
    by_cases z : i.natAbs = 0
    · rw [z]; decide
    · exact (Nat.log2_lt z).mpr (by omega)
  refine ⟨?_, ?_, ?_, Nat.le_refl _⟩
  · show decide _ = true; rw [decide_eq_true_eq]; omega
  · show decide _ = true
    rw [decide_eq_true_eq]
    have e := PySem.int_text_length_le10 (k := 40) (by decide) h
    show (Str.ofString (toString i)).length ≤ 41
    rw [PySem.ofString_length]; exact e
  · show (if i == 0 then 0 else i.natAbs.log2 + 1) ≤ 134
    split <;> omega
theorem Wd.str {l : List Nat} (h : ∀ c ∈ l, c < 0x110000) : Wd (.str (tx l)) l.length 0 := by
  have n := Nice.str h
  exact ⟨n.sh, n.ls, n.wt, n.dp⟩
theorem Wd.mono {d : PyData} {n m n' m' : Nat} (h : Wd d n m) (a : n ≤ n') (b : m ≤ m') : Wd d n' m' := ⟨h.sh, h.ls, Nat.le_trans h.wt a, Nat.le_trans h.dp b⟩
theorem WdA.mono {d : List PyData} {n m n' m' : Nat} (h : WdA d n m) (a : n ≤ n') (b : m ≤ m') : WdA d n' m' := ⟨h.sh, h.ls, Nat.le_trans h.wt a, Nat.le_trans h.dp b⟩
theorem WdA.nil : WdA [] 0 0 := ⟨rfl, rfl, Nat.le_refl _, Nat.le_refl _⟩
theorem WdA.cons {d : PyData} {ds : List PyData} {n m k j : Nat} (h : Wd d n m) (a : WdA ds k j) : WdA (d :: ds) (n + 1 + k) (max m j) := by
  refine ⟨?_, ?_, ?_, ?_⟩
  · show (d.showable && PyData.showableAll ds) = true; rw [h.sh, a.sh]; rfl
  · show (PySem.PyData.leavesShort 41 d && PySem.PyData.leavesShortAll 41 ds) = true; rw [h.ls, a.ls]; rfl
  · show PySem.PyData.weight d + 1 + PySem.PyData.weightAll ds ≤ _
    have := h.wt; have := a.wt; omega
  · show max d.depth (PyData.depthAll ds) ≤ _
    have := h.dp; have := a.dp; omega
theorem WdA.list {ds : List PyData} {n m : Nat} (a : WdA ds n m) : Wd (.list ds) n (m + 1) := ⟨a.sh, a.ls, a.wt, Nat.succ_le_succ a.dp⟩
theorem WdA.tuple {ds : List PyData} {n m : Nat} (a : WdA ds n m) : Wd (.tuple ds) n (m + 1) := ⟨a.sh, a.ls, a.wt, Nat.succ_le_succ a.dp⟩
structure NiceT (n m : Nat) (t : T) : Prop where
  ex : ∃ d, t.data = some d ∧ Wd d n m
structure NiceTs (n m : Nat) (ts : List T) : Prop where
  ex : ∃ ds, T.dataA ts = some ds ∧ WdA ds n m
theorem NiceT.mono {n m n' m' : Nat} {t : T} (h : NiceT n m t) (a : n ≤ n') (b : m ≤ m') : NiceT n' m' t := by obtain ⟨d, h1, h2⟩ := h.ex; exact ⟨d, h1, h2.mono a b⟩
theorem NiceTs.mono {n m n' m' : Nat} {t : List T} (h : NiceTs n m t) (a : n ≤ n') (b : m ≤ m') : NiceTs n' m' t := by obtain ⟨d, h1, h2⟩ := h.ex; exact ⟨d, h1, h2.mono a b⟩
theorem NiceT.non : NiceT 0 0 .non := ⟨_, rfl, Wd.none⟩
theorem NiceT.bl (b : Bool) : NiceT 0 0 (.bl b) := ⟨_, rfl, Wd.bool b⟩
theorem NiceT.int {i : Int} (h : -1000000000000000000000000 < i ∧ i < 1000000000000000000000000) : NiceT 134 0 (.int i) := ⟨_, rfl, Wd.int (by omega)⟩
theorem NiceT.str {l : List Nat} (h : ∀ c ∈ l, c < 0x110000) : NiceT l.length 0 (.str l) := ⟨_, rfl, Wd.str h⟩
theorem NiceTs.nil : NiceTs 0 0 [] := ⟨_, dat_nil, WdA.nil⟩
theorem NiceTs.cons {n m k j : Nat} {t : T} {ts : List T} (h : NiceT n m t) (hs : NiceTs k j ts) : NiceTs (n + 1 + k) (max m j) (t :: ts) := by
  obtain ⟨d, h1, h2⟩ := h.ex; obtain ⟨ds, h3, h4⟩ := hs.ex
  exact ⟨_, dat_cons h1 h3, WdA.cons h2 h4⟩
theorem NiceTs.all {n m : Nat} : ∀ {ts : List T}, (∀ t ∈ ts, NiceT n m t) → NiceTs ((n + 1) * ts.length) m ts
  | [], _ => NiceTs.nil.mono (by omega) (by omega)
  | t :: ts, h => (NiceTs.cons (h t List.mem_cons_self) (NiceTs.all fun x hx => h x (List.mem_cons_of_mem _ hx))).mono (by rw [List.length_cons, Nat.mul_add]; omega) (by omega)
theorem NiceTs.lst {n m : Nat} {o : Bool} {ts : List T} (h : NiceTs n m ts) : NiceT n (m + 1) (.lst o ts) := by
  obtain ⟨ds, h3, h4⟩ := h.ex
  exact ⟨_, by rw [da_lst, h3]; rfl, h4.list⟩
theorem NiceTs.tup {n m : Nat} {ts : List T} (h : NiceTs n m ts) : NiceT n (m + 1) (.tup ts) := by
  obtain ⟨ds, h3, h4⟩ := h.ex
  exact ⟨_, by rw [da_tup, h3]; rfl, h4.tuple⟩
theorem NiceT.frz {n m : Nat} {t : T} (h : NiceT n m t) : NiceT n m t.frz := by obtain ⟨d, h1, h2⟩ := h.ex; exact ⟨d, by rw [data_frz]; exact h1, h2⟩
theorem ty_non : tyT .non = some "NoneType" := rfl
theorem ty_bl (b : Bool) : tyT (.bl b) = some "bool" := rfl
theorem ty_int (b : Int) : tyT (.int b) = some "int" := rfl
theorem ty_str (b : List Nat) : tyT (.str b) = some "str" := rfl
theorem ty_lst (o : Bool) (b : List T) : tyT (.lst o b) = some "list" := rfl
theorem ty_tup (b : List T) : tyT (.tup b) = some "tuple" := rfl
theorem ty_dct (o : Bool) (ks : List Ky) (b : List T) : tyT (.dct o ks b) = some "dict" := rfl
noncomputable def isiK (m : String) : Option String → Option T
  | some n => (subB n m).map .bl
  | none => none
theorem isi_e (a : T) (m : String) : isiT a (.ty m) = isiK m (tyT a) := by unfold isiT isiB isiK; cases tyT a <;> rfl
theorem isiK_s (n m : String) : isiK m (some n) = (subB n m).map .bl := rfl
theorem sb_NoneType_NoneType : subB "NoneType" "NoneType" = some true := by decide +kernel
theorem sb_NoneType_bool : subB "NoneType" "bool" = some false := by decide +kernel
theorem sb_NoneType_int : subB "NoneType" "int" = some false := by decide +kernel
theorem sb_NoneType_str : subB "NoneType" "str" = some false := by decide +kernel
theorem sb_NoneType_list : subB "NoneType" "list" = some false := by decide +kernel
theorem sb_NoneType_tuple : subB "NoneType" "tuple" = some false := by decide +kernel
theorem sb_NoneType_dict : subB "NoneType" "dict" = some false := by decide +kernel
theorem sb_bool_NoneType : subB "bool" "NoneType" = some false := by decide +kernel
theorem sb_bool_bool : subB "bool" "bool" = some true := by decide +kernel
theorem sb_bool_int : subB "bool" "int" = some true := by decide +kernel
theorem sb_bool_str : subB "bool" "str" = some false := by decide +kernel
theorem sb_bool_list : subB "bool" "list" = some false := by decide +kernel
theorem sb_bool_tuple : subB "bool" "tuple" = some false := by decide +kernel
theorem sb_bool_dict : subB "bool" "dict" = some false := by decide +kernel
theorem sb_int_NoneType : subB "int" "NoneType" = some false := by decide +kernel
theorem sb_int_bool : subB "int" "bool" = some false := by decide +kernel
theorem sb_int_int : subB "int" "int" = some true := by decide +kernel
theorem sb_int_str : subB "int" "str" = some false := by decide +kernel
theorem sb_int_list : subB "int" "list" = some false := by decide +kernel
theorem sb_int_tuple : subB "int" "tuple" = some false := by decide +kernel
theorem sb_int_dict : subB "int" "dict" = some false := by decide +kernel
theorem sb_str_NoneType : subB "str" "NoneType" = some false := by decide +kernel
theorem sb_str_bool : subB "str" "bool" = some false := by decide +kernel
theorem sb_str_int : subB "str" "int" = some false := by decide +kernel
theorem sb_str_str : subB "str" "str" = some true := by decide +kernel
theorem sb_str_list : subB "str" "list" = some false := by decide +kernel
theorem sb_str_tuple : subB "str" "tuple" = some false := by decide +kernel
theorem sb_str_dict : subB "str" "dict" = some false := by decide +kernel
theorem sb_list_NoneType : subB "list" "NoneType" = some false := by decide +kernel
theorem sb_list_bool : subB "list" "bool" = some false := by decide +kernel
theorem sb_list_int : subB "list" "int" = some false := by decide +kernel
theorem sb_list_str : subB "list" "str" = some false := by decide +kernel
theorem sb_list_list : subB "list" "list" = some true := by decide +kernel
theorem sb_list_tuple : subB "list" "tuple" = some false := by decide +kernel
theorem sb_list_dict : subB "list" "dict" = some false := by decide +kernel
theorem sb_tuple_NoneType : subB "tuple" "NoneType" = some false := by decide +kernel
theorem sb_tuple_bool : subB "tuple" "bool" = some false := by decide +kernel
theorem sb_tuple_int : subB "tuple" "int" = some false := by decide +kernel
theorem sb_tuple_str : subB "tuple" "str" = some false := by decide +kernel
theorem sb_tuple_list : subB "tuple" "list" = some false := by decide +kernel
theorem sb_tuple_tuple : subB "tuple" "tuple" = some true := by decide +kernel
theorem sb_tuple_dict : subB "tuple" "dict" = some false := by decide +kernel
theorem sb_dict_NoneType : subB "dict" "NoneType" = some false := by decide +kernel
theorem sb_dict_bool : subB "dict" "bool" = some false := by decide +kernel
theorem sb_dict_int : subB "dict" "int" = some false := by decide +kernel
theorem sb_dict_str : subB "dict" "str" = some false := by decide +kernel
theorem sb_dict_list : subB "dict" "list" = some false := by decide +kernel
theorem sb_dict_tuple : subB "dict" "tuple" = some false := by decide +kernel
theorem sb_dict_dict : subB "dict" "dict" = some true := by decide +kernel
noncomputable def Fr.mk : Fr → Fr
  | .ok .non (s :: os) => .ok s os
  | .exc C x (_ :: os) => .exc C x os
  | _ => .bad
theorem mk_ok (s : T) (os : List T) : (Fr.ok .non (s :: os)).mk = .ok s os := rfl
theorem mk_exc (C : Str) (x s : T) (os : List T) : (Fr.exc C x (s :: os)).mk = .exc C x os := rfl
theorem in_ss (c : Nat) (s : List Nat) : inT (.str [c]) (.str s) = some (.bl (decide (c ∈ s))) := rfl
structure PlT (m : Nat) (t : T) : Prop where
  ex : ∃ d, t.data = some d ∧ d.canLay0 = true ∧ d.depth ≤ m ∧ noD d = true
structure PlTs (m : Nat) (ts : List T) : Prop where
  ex : ∃ ds, T.dataA ts = some ds ∧ PyData.canLayAll0 ds = true ∧ PyData.depthAll ds ≤ m ∧ noDA ds = true
theorem PlT.non : PlT 0 .non := ⟨_, rfl, rfl, Nat.le_refl _, rfl⟩
theorem PlT.bl (b : Bool) : PlT 0 (.bl b) := ⟨_, rfl, rfl, Nat.le_refl _, rfl⟩
theorem PlT.int (i : Int) : PlT 0 (.int i) := ⟨_, rfl, rfl, Nat.le_refl _, rfl⟩
theorem PlT.str {l : List Nat} (h : ∀ c ∈ l, c < 0x110000) : PlT 0 (.str l) := ⟨_, rfl, strOk_tx h, Nat.le_refl _, rfl⟩
theorem PlTs.nil : PlTs 0 [] := ⟨_, dat_nil, rfl, Nat.le_refl _, rfl⟩
theorem PlTs.cons {m k : Nat} {t : T} {ts : List T} (h : PlT m t) (hs : PlTs k ts) : PlTs (max m k) (t :: ts) := by
  obtain ⟨d, h1, h2, h3, h4⟩ := h.ex; obtain ⟨ds, g1, g2, g3, g4⟩ := hs.ex
  refine ⟨_, dat_cons h1 g1, ?_, ?_, ?_⟩
  · show (d.canLay0 && PyData.canLayAll0 ds) = true; rw [h2, g2]; rfl
  · show max d.depth (PyData.depthAll ds) ≤ _; omega
  · show (noD d && noDA ds) = true; rw [h4, g4]; rfl
theorem PlT.mono {m n : Nat} {t : T} (h : PlT m t) (l : m ≤ n) : PlT n t := by obtain ⟨d, h1, h2, h3, h4⟩ := h.ex; exact ⟨d, h1, h2, Nat.le_trans h3 l, h4⟩
theorem PlTs.mono {m n : Nat} {t : List T} (h : PlTs m t) (l : m ≤ n) : PlTs n t := by obtain ⟨d, h1, h2, h3, h4⟩ := h.ex; exact ⟨d, h1, h2, Nat.le_trans h3 l, h4⟩
theorem PlTs.all {m : Nat} : ∀ {ts : List T}, (∀ t ∈ ts, PlT m t) → PlTs m ts
  | [], _ => PlTs.nil.mono (by omega)
  | t :: ts, h => (PlTs.cons (h t List.mem_cons_self) (PlTs.all fun x hx => h x (List.mem_cons_of_mem _ hx))).mono (by omega)
theorem PlTs.lst {m : Nat} {o : Bool} {ts : List T} (h : PlTs m ts) : PlT (m + 1) (.lst o ts) := by
  obtain ⟨ds, g1, g2, g3, g4⟩ := h.ex
  exact ⟨.list ds, by rw [da_lst, g1]; rfl, g2, Nat.succ_le_succ g3, g4⟩
theorem PlTs.tup {m : Nat} {ts : List T} (h : PlTs m ts) : PlT (m + 1) (.tup ts) := by
  obtain ⟨ds, g1, g2, g3, g4⟩ := h.ex
  exact ⟨.tuple ds, by rw [da_tup, g1]; rfl, g2, Nat.succ_le_succ g3, g4⟩
theorem eqB_e {m n : Nat} {a b : T} {d e : PyData} (ha : PlT m a) (hb : PlT n b) (hm : m ≤ 64) (hn : n ≤ 64) (e1 : a.data = some d) (e2 : b.data = some e) : eqB a b = some (PyData.eqv d e) := by
  obtain ⟨d', h1, h2, h3, h4⟩ := ha.ex; obtain ⟨e', g1, g2, g3, g4⟩ := hb.ex
  rw [e1] at h1; cases h1; rw [e2] at g1; cases g1
  unfold eqB; rw [e1, e2]
  dsimp only
  rw [if_pos]
  unfold SeqAt.shaped
  rw [h2, h4, g2, g4]
  simp only [Bool.true_and, Bool.and_eq_true, decide_eq_true_eq]
  exact ⟨Nat.le_trans h3 hm, Nat.le_trans g3 hn⟩
noncomputable def Rt.tr (sb : Str → Str → Option Bool) (hs : List Hd) : Rt → Rt
  | .exc C x e => hdl sb hs C x e
  | r => r
theorem tryS_e (sb : Str → Str → Option Bool) (b : Sm) (hs : List Hd) (e : Env) : tryS sb b hs e = (b e).tr sb hs := by unfold tryS Rt.tr; cases b e <;> rfl
theorem tr_nxt (sb : Str → Str → Option Bool) (hs : List Hd) (e : Env) : (Rt.nxt e).tr sb hs = .nxt e := rfl
theorem tr_cnt (sb : Str → Str → Option Bool) (hs : List Hd) (e : Env) : (Rt.cnt e).tr sb hs = .cnt e := rfl
theorem tr_brk (sb : Str → Str → Option Bool) (hs : List Hd) (e : Env) : (Rt.brk e).tr sb hs = .brk e := rfl
theorem tr_ret (sb : Str → Str → Option Bool) (hs : List Hd) (t : T) (e : Env) : (Rt.ret t e).tr sb hs = .ret t e := rfl
theorem tr_exc (sb : Str → Str → Option Bool) (hs : List Hd) (C : Str) (t : T) (e : Env) : (Rt.exc C t e).tr sb hs = hdl sb hs C t e := rfl
theorem hdl_0 (sb : Str → Str → Option Bool) (C : Str) (x : T) (e : Env) : hdl sb [] C x e = .exc C x e := rfl
noncomputable def hdN1 (ms : Sm) (e : Env) : Bool → Rt := fun k => if k = true then mapR id (ms e) else .bad
theorem hdN1_t (ms : Sm) (e : Env) : hdN1 ms e true = mapR id (ms e) := rfl
noncomputable def hdN (sb : Str → Str → Option Bool) (ms : Sm) (r : List Hd) (C : Str) (x : T) (e : Env) : Option Bool → Rt
  | none => .bad
  | some true => hdN1 ms e (noE e)
  | some false => hdl sb r C x e
theorem hdN_t (sb : Str → Str → Option Bool) (ms : Sm) (r : List Hd) (C : Str) (x : T) (e : Env) : hdN sb ms r C x e (some true) = hdN1 ms e (noE e) := rfl
theorem hdN_f (sb : Str → Str → Option Bool) (ms : Sm) (r : List Hd) (C : Str) (x : T) (e : Env) : hdN sb ms r C x e (some false) = hdl sb r C x e := rfl
theorem hdl_n (sb : Str → Str → Option Bool) (D C : Str) (ms : Sm) (r : List Hd) (x : T) (e : Env) : hdl sb ((D, none, ms) :: r) C x e = hdN sb ms r C x e (sb C D) := by
  rw [hdl]; unfold hdN hdN1; cases sb C D with
  | none => rfl
  | some b => cases b <;> rfl
noncomputable def hdS1 (i : Nat) (ms : Sm) (C : Str) (x : T) (e : Env) : Bool → Rt := fun k => if k = true then (if i < e.length then mapR (fun e => e.set i .unb) (ms (e.set i (.exn C x))) else .bad) else .bad
theorem hdS1_t (i : Nat) (ms : Sm) (C : Str) (x : T) (e : Env) : hdS1 i ms C x e true = if i < e.length then mapR (fun e => e.set i .unb) (ms (e.set i (.exn C x))) else .bad := rfl
noncomputable def hdS (sb : Str → Str → Option Bool) (i : Nat) (ms : Sm) (r : List Hd) (C : Str) (x : T) (e : Env) : Option Bool → Rt
  | none => .bad
  | some true => hdS1 i ms C x e (noE e)
  | some false => hdl sb r C x e
theorem hdS_t (sb : Str → Str → Option Bool) (i : Nat) (ms : Sm) (r : List Hd) (C : Str) (x : T) (e : Env) : hdS sb i ms r C x e (some true) = hdS1 i ms C x e (noE e) := rfl
theorem hdS_f (sb : Str → Str → Option Bool) (i : Nat) (ms : Sm) (r : List Hd) (C : Str) (x : T) (e : Env) : hdS sb i ms r C x e (some false) = hdl sb r C x e := rfl
theorem hdl_s (sb : Str → Str → Option Bool) (D C : Str) (i : Nat) (ms : Sm) (r : List Hd) (x : T) (e : Env) : hdl sb ((D, some i, ms) :: r) C x e = hdS sb i ms r C x e (sb C D) := by
  rw [hdl]; unfold hdS hdS1; cases sb C D with
  | none => rfl
  | some b => cases b <;> rfl
theorem mapR_nxt (f : Env → Env) (e : Env) : mapR f (.nxt e) = if noE (f e) = true then .nxt (f e) else .bad := rfl
theorem mapR_ret (f : Env → Env) (t : T) (e : Env) : mapR f (.ret t e) = if noE (f e) = true then .ret t (f e) else .bad := rfl
theorem mapR_brk (f : Env → Env) (e : Env) : mapR f (.brk e) = if noE (f e) = true then .brk (f e) else .bad := rfl
theorem mapR_cnt (f : Env → Env) (e : Env) : mapR f (.cnt e) = if noE (f e) = true then .cnt (f e) else .bad := rfl
theorem noE_n : noE [] = true := rfl
theorem noE_c (t : T) (e : Env) : noE (t :: e) = (!t.isE && noE e) := rfl
theorem isE_unb : T.unb.isE = false := rfl
theorem isE_v (t : T) (h : t.isV = true) : t.isE = false := by cases t <;> first | rfl | (simp [T.isV] at h)
theorem isE_non : T.non.isE = false := rfl
theorem isE_bl (b : Bool) : (T.bl b).isE = false := rfl
theorem isE_int (b : Int) : (T.int b).isE = false := rfl
theorem isE_str (b : List Nat) : (T.str b).isE = false := rfl
theorem isE_lst (o : Bool) (b : List T) : (T.lst o b).isE = false := rfl
theorem isE_tup (b : List T) : (T.tup b).isE = false := rfl
theorem isE_dct (o : Bool) (ks : List Ky) (b : List T) : (T.dct o ks b).isE = false := rfl
theorem isE_ins (o : Bool) (C : Str) (ks : List Str) (b : List T) : (T.ins o C ks b).isE = false := rfl
theorem isE_sq (b : List Int) : (T.sq b).isE = false := rfl
noncomputable def fndK (i : Nat) (Cn : Str) (e : Env) : Option T → Rs T
  | some (.exn C x) => if C = Cn then .ok x.frz (e.set i (.exn C x.frz)) else .bad
  | _ => .bad
theorem fndE_e (i : Nat) (Cn : Str) (e : Env) : fndE i Cn e = fndK i Cn e e[i]? := rfl
theorem fndK_s (i : Nat) (Cn C : Str) (x : T) (e : Env) : fndK i Cn e (some (.exn C x)) = if C = Cn then .ok x.frz (e.set i (.exn C x.frz)) else .bad := rfl
end En
set_option maxRecDepth 100000
set_option maxHeartbeats 1000000
namespace En
open PySem PySem.Spec PyProof.Rows L2 Gk
noncomputable abbrev Tx := List Char
noncomputable def nn (s : Tx) : List Nat := s.map Char.toNat
theorem nn_inj {a b : Tx} : nn a = nn b ↔ a = b := by
  constructor
  · intro h
    refine List.map_inj_right (f := Char.toNat) ?_ |>.mp h
    intro x y e
    exact Char.ext (UInt32.toNat_inj.mp e)
  · rintro rfl; rfl
theorem nn_len (a : Tx) : (nn a).length = a.length := List.length_map _
noncomputable def memB {α : Type} [DecidableEq α] (a : α) (l : List α) : Bool := decide (a ∈ l)
class Cd (α : Type) where
  en : Bool → α → T
  isV : ∀ o x, (en o x).isV = true
  frz : ∀ o x, (en o x).frz = en false x
  un : ∀ o x, (en o x).un = en o x
  noe : ∀ o x, (en o x).isE = false
open Cd (en)
/-- no flag in it -/
class Fq (α : Type) [Cd α] : Prop where
  fq : ∀ o (x : α), en o x = en true x
/-- all of it its holder's -/
class Ow (α : Type) [Cd α] : Prop where
  ow : ∀ x : α, (en true x).fresh = true
noncomputable instance : Cd Unit := ⟨fun _ _ => .non, fun _ _ => rfl, fun _ _ => rfl, fun _ _ => rfl, fun _ _ => rfl⟩
noncomputable instance : Cd Bool := ⟨fun _ b => .bl b, fun _ _ => rfl, fun _ _ => rfl, fun _ _ => rfl, fun _ _ => rfl⟩
noncomputable instance : Cd Int := ⟨fun _ b => .int b, fun _ _ => rfl, fun _ _ => rfl, fun _ _ => rfl, fun _ _ => rfl⟩
noncomputable instance iTx : Cd Tx := ⟨fun _ b => .str (nn b), fun _ _ => rfl, fun _ _ => rfl, fun _ _ => rfl, fun _ _ => rfl⟩
section
variable {α β γ δ ε κ : Type} [Cd α] [Cd β] [Cd γ] [Cd δ] [Cd ε]
theorem frz_map (o : Bool) (l : List α) : (l.map (en o)).map T.frz = l.map (en false) := by
  rw [List.map_map]; apply List.map_congr_left; intro x _; exact Cd.frz o x
theorem fq_map [Fq α] (o : Bool) (l : List α) : l.map (en o) = l.map (en true) := List.map_congr_left fun x _ => Fq.fq o x
theorem fr_map [Ow α] (l : List α) : (l.map (en true)).all T.fresh = true := by
  rw [List.all_map, List.all_eq_true]; intro x _; exact Ow.ow x
noncomputable instance iL : Cd (List α) := ⟨fun o l => .lst o (l.map (en o)), fun _ _ => rfl, fun o l => by rw [frz_lst, frz_map], fun _ _ => rfl, fun _ _ => rfl⟩
/-- a tuple of any length -/
structure Vt (α : Type) where
  l : List α
deriving DecidableEq
noncomputable instance iV : Cd (Vt α) := ⟨fun o x => .tup (x.l.map (en o)), fun _ _ => rfl, fun o x => by rw [frz_tup, frz_map], fun _ _ => rfl, fun _ _ => rfl⟩
/-- a list or a tuple -/
structure Lv (α : Type) where
  t : Bool
  l : List α
deriving DecidableEq
noncomputable instance iLv : Cd (Lv α) := ⟨fun o x => match x.t with
  | true => .tup (x.l.map (en o))
  | false => .lst o (x.l.map (en o)), fun o x => by cases h : x.t <;> simp only [h] <;> rfl, fun o x => by
    cases h : x.t <;> simp only [h]
    · rw [frz_lst, frz_map]
    · rw [frz_tup, frz_map], fun o x => by cases h : x.t <;> simp only [h] <;> rfl, fun o x => by cases h : x.t <;> simp only [h] <;> rfl⟩
noncomputable instance iP2 : Cd (α × β) := ⟨fun o x => .tup [en o x.1, en o x.2], fun _ _ => rfl, fun o x => by rw [frz_tup]; simp only [List.map_cons, List.map_nil, Cd.frz], fun _ _ => rfl, fun _ _ => rfl⟩
structure P0 where
deriving DecidableEq
structure P1 (α : Type) where
  a : α
deriving DecidableEq
structure P3 (α β γ : Type) where
  a : α
  b : β
  c : γ
deriving DecidableEq
structure P4 (α β γ δ : Type) where
  a : α
  b : β
  c : γ
  d : δ
deriving DecidableEq
structure P5 (α β γ δ ε : Type) where
  a : α
  b : β
  c : γ
  d : δ
  e : ε
deriving DecidableEq
noncomputable instance iP0 : Cd P0 := ⟨fun o x => .tup [], fun _ _ => rfl, fun o x => by rw [frz_tup]; rfl, fun _ _ => rfl, fun _ _ => rfl⟩
noncomputable instance iP1 : Cd (P1 α) := ⟨fun o x => .tup [en o x.a], fun _ _ => rfl, fun o x => by rw [frz_tup]; simp only [List.map_cons, List.map_nil, Cd.frz], fun _ _ => rfl, fun _ _ => rfl⟩
noncomputable instance iP3 : Cd (P3 α β γ) := ⟨fun o x => .tup [en o x.a, en o x.b, en o x.c], fun _ _ => rfl, fun o x => by rw [frz_tup]; simp only [List.map_cons, List.map_nil, Cd.frz], fun _ _ => rfl, fun _ _ => rfl⟩
noncomputable instance iP4 : Cd (P4 α β γ δ) := ⟨fun o x => .tup [en o x.a, en o x.b, en o x.c, en o x.d], fun _ _ => rfl, fun o x => by rw [frz_tup]; simp only [List.map_cons, List.map_nil, Cd.frz], fun _ _ => rfl, fun _ _ => rfl⟩
noncomputable instance iP5 : Cd (P5 α β γ δ ε) := ⟨fun o x => .tup [en o x.a, en o x.b, en o x.c, en o x.d, en o x.e], fun _ _ => rfl, fun o x => by rw [frz_tup]; simp only [List.map_cons, List.map_nil, Cd.frz], fun _ _ => rfl, fun _ _ => rfl⟩
noncomputable instance iOp : Cd (Option α) := ⟨fun o x => match x with
  | none => .non
  | some a => en o a, fun o x => match x with | none => rfl | some a => Cd.isV o a, fun o x => match x with | none => rfl | some a => Cd.frz o a, fun o x => match x with | none => rfl | some a => Cd.un o a, fun o x => match x with | none => rfl | some a => Cd.noe o a⟩
/-- frozen, within a holder's own -/
structure Fz (α : Type) where
  x : α
deriving DecidableEq
noncomputable instance iFz : Cd (Fz α) := ⟨fun _ y => en false y.x, fun _ _ => Cd.isV _ _, fun _ _ => Cd.frz _ _, fun _ _ => Cd.un _ _, fun _ _ => Cd.noe _ _⟩
structure Scr where
  l : List Int
noncomputable instance iScr : Cd Scr := ⟨fun _ x => .sq x.l, fun _ _ => rfl, fun _ _ => rfl, fun _ _ => rfl, fun _ _ => rfl⟩
/-- keys -/
class Kc (κ : Type) where
  ky : κ → Ky
  inj : ∀ a b, ky a = ky b → a = b
noncomputable instance : Kc Int := ⟨.inl, fun a b h => by cases h; rfl⟩
noncomputable instance iKTx : Kc Tx := ⟨fun s => .inr (nn s), fun a b h => nn_inj.mp (by injection h)⟩
structure Dc (κ α : Type) where
  l : List (κ × α)
deriving DecidableEq
noncomputable instance iDc [Kc κ] : Cd (Dc κ α) := ⟨fun o x => .dct o (x.l.map fun p => Kc.ky p.1) (x.l.map fun p => en o p.2), fun _ _ => rfl, fun o x => by
  rw [frz_dct, List.map_map]; congr 1; apply List.map_congr_left; intro p _; exact Cd.frz o p.2, fun _ _ => rfl, fun _ _ => rfl⟩
/-- objects -/
class Fs (α : Type) where
  fs : Bool → α → List T
  frz : ∀ o x, (fs o x).map T.frz = fs false x
class OwF (α : Type) [Fs α] : Prop where
  ow : ∀ x : α, (Fs.fs true x).all T.fresh = true
noncomputable instance iFs0 : Fs Unit := ⟨fun _ _ => [], fun _ _ => rfl⟩
noncomputable instance iFs1 [Fs β] : Fs (α × β) := ⟨fun o x => en o x.1 :: Fs.fs o x.2, fun o x => by rw [List.map_cons, Cd.frz, Fs.frz]⟩
structure Ob (C : Str) (ns : List Str) (φ : Type) where
  f : φ
noncomputable instance iOb {C : Str} {ns : List Str} {φ : Type} [Fs φ] : Cd (Ob C ns φ) := ⟨fun o x => .ins o C ns (Fs.fs o x.f), fun _ _ => rfl, fun o x => by rw [frz_ins, Fs.frz], fun _ _ => rfl, fun _ _ => rfl⟩
noncomputable instance : Fq Unit := ⟨fun _ _ => rfl⟩
noncomputable instance : Fq Bool := ⟨fun _ _ => rfl⟩
noncomputable instance : Fq Int := ⟨fun _ _ => rfl⟩
noncomputable instance qTx : Fq Tx := ⟨fun _ _ => rfl⟩
noncomputable instance qFz : Fq (Fz α) := ⟨fun _ _ => rfl⟩
noncomputable instance qScr : Fq Scr := ⟨fun _ _ => rfl⟩
noncomputable instance qP0 : Fq P0 := ⟨fun _ _ => rfl⟩
noncomputable instance qP1 [Fq α] : Fq (P1 α) := ⟨fun o x => by show T.tup _ = T.tup _; rw [Fq.fq o]⟩
noncomputable instance qP2 [Fq α] [Fq β] : Fq (α × β) := ⟨fun o x => by show T.tup _ = T.tup _; rw [Fq.fq o, Fq.fq o]⟩
noncomputable instance qP3 [Fq α] [Fq β] [Fq γ] : Fq (P3 α β γ) := ⟨fun o x => by show T.tup _ = T.tup _; rw [Fq.fq o, Fq.fq o, Fq.fq o]⟩
noncomputable instance qP4 [Fq α] [Fq β] [Fq γ] [Fq δ] : Fq (P4 α β γ δ) := ⟨fun o x => by show T.tup _ = T.tup _; rw [Fq.fq o, Fq.fq o, Fq.fq o, Fq.fq o]⟩
noncomputable instance qP5 [Fq α] [Fq β] [Fq γ] [Fq δ] [Fq ε] : Fq (P5 α β γ δ ε) := ⟨fun o x => by show T.tup _ = T.tup _; rw [Fq.fq o, Fq.fq o, Fq.fq o, Fq.fq o, Fq.fq o]⟩
noncomputable instance qOp [Fq α] : Fq (Option α) := ⟨fun o x => by cases x with
  | none => rfl
  | some a => exact Fq.fq o a⟩
noncomputable instance qVt [Fq α] : Fq (Vt α) := ⟨fun o x => by show T.tup _ = T.tup _; rw [fq_map o]⟩
noncomputable instance : Ow Unit := ⟨fun _ => rfl⟩
noncomputable instance : Ow Bool := ⟨fun _ => rfl⟩
noncomputable instance : Ow Int := ⟨fun _ => rfl⟩
noncomputable instance oTx : Ow Tx := ⟨fun _ => rfl⟩
noncomputable instance oL [Ow α] : Ow (List α) := ⟨fun l => by show (T.lst true _).fresh = true; rw [fr_lst, fr_map]; rfl⟩
noncomputable instance oV [Ow α] : Ow (Vt α) := ⟨fun l => by show (T.tup _).fresh = true; rw [fr_tup, fr_map]⟩
noncomputable instance oLv [Ow α] : Ow (Lv α) := ⟨fun x => by
  obtain ⟨t, l⟩ := x
  cases t
  · show (T.lst true _).fresh = true; rw [fr_lst, fr_map]; rfl
  · show (T.tup _).fresh = true; rw [fr_tup, fr_map]⟩
noncomputable instance oP0 : Ow P0 := ⟨fun l => by show (T.tup _).fresh = true; rw [fr_tup]; rfl⟩
noncomputable instance oP1 [Ow α] : Ow (P1 α) := ⟨fun l => by show (T.tup _).fresh = true; rw [fr_tup]; simp only [List.all_cons, List.all_nil, Ow.ow]; rfl⟩
noncomputable instance oP2 [Ow α] [Ow β] : Ow (α × β) := ⟨fun l => by show (T.tup _).fresh = true; rw [fr_tup]; simp only [List.all_cons, List.all_nil, Ow.ow]; rfl⟩
noncomputable instance oP3 [Ow α] [Ow β] [Ow γ] : Ow (P3 α β γ) := ⟨fun l => by show (T.tup _).fresh = true; rw [fr_tup]; simp only [List.all_cons, List.all_nil, Ow.ow]; rfl⟩
noncomputable instance oP4 [Ow α] [Ow β] [Ow γ] [Ow δ] : Ow (P4 α β γ δ) := ⟨fun l => by show (T.tup _).fresh = true; rw [fr_tup]; simp only [List.all_cons, List.all_nil, Ow.ow]; rfl⟩
noncomputable instance oP5 [Ow α] [Ow β] [Ow γ] [Ow δ] [Ow ε] : Ow (P5 α β γ δ ε) := ⟨fun l => by show (T.tup _).fresh = true; rw [fr_tup]; simp only [List.all_cons, List.all_nil, Ow.ow]; rfl⟩
noncomputable instance oOp [Ow α] : Ow (Option α) := ⟨fun x => by cases x with
  | none => rfl
  | some a => exact Ow.ow a⟩
noncomputable instance oDc [Kc κ] [Ow α] : Ow (Dc κ α) := ⟨fun x => by
  show (T.dct true _ _).fresh = true
  rw [fr_dct, List.all_map, Bool.true_and, List.all_eq_true]; intro p _; exact Ow.ow p.2⟩
noncomputable instance oF0 : OwF Unit := ⟨fun _ => rfl⟩
noncomputable instance oF1 [Fs β] [Ow α] [OwF β] : OwF (α × β) := ⟨fun x => by show (en true x.1 :: Fs.fs true x.2).all T.fresh = true; rw [List.all_cons, Ow.ow, OwF.ow]; rfl⟩
noncomputable instance oOb {C : Str} {ns : List Str} {φ : Type} [Fs φ] [OwF φ] : Ow (Ob C ns φ) := ⟨fun x => by show (T.ins true _ _ _).fresh = true; rw [fr_ins, OwF.ow]; rfl⟩
/-- evaluation: flags and shapes -/
theorem q_v (o : Bool) (x : α) : (en o x).isV = true := Cd.isV o x
theorem q_f (o : Bool) (x : α) : (en o x).frz = en false x := Cd.frz o x
theorem q_u (o : Bool) (x : α) : (en o x).un = en o x := Cd.un o x
theorem q_e (o : Bool) (x : α) : (en o x).isE = false := Cd.noe o x
theorem q_q [Fq α] (x : α) : en false x = en true x := Fq.fq false x
theorem q_w [Ow α] (x : α) : (en true x).fresh = true := Ow.ow x
theorem q_fz (o : Bool) (x : Fz α) : en o x = en false x.x := rfl
theorem q_int (i : Int) : T.int i = en true i := rfl
theorem q_bl (i : Bool) : T.bl i = en true i := rfl
theorem q_non : T.non = en true () := rfl
end
end En
set_option maxRecDepth 100000
set_option maxHeartbeats 1000000
namespace En
open PySem PySem.Spec PyProof.Rows L2 Gk
open Cd (en)
/-- a list of things that may be changed each by itself -/
class Nf (α : Type) [Cd α] : Prop where
  nf : True
noncomputable instance {α : Type} [Cd α] : Nf (List α) := ⟨trivial⟩
noncomputable instance {α : Type} [Cd α] : Nf (Lv α) := ⟨trivial⟩
noncomputable instance {κ α : Type} [Kc κ] [Cd α] : Nf (Dc κ α) := ⟨trivial⟩
noncomputable instance {C : Str} {ns : List Str} {φ : Type} [Fs φ] : Nf (Ob C ns φ) := ⟨trivial⟩
class Nn (α : Type) [Cd α] : Prop where
  nn : ∀ o (x : α), (en o x).isNon = some false
noncomputable instance : Nn Int := ⟨fun _ _ => rfl⟩
noncomputable instance : Nn Bool := ⟨fun _ _ => rfl⟩
noncomputable instance nTx : Nn Tx := ⟨fun _ _ => rfl⟩
section
variable {α β γ δ ε κ : Type} [Cd α] [Cd β] [Cd γ] [Cd δ] [Cd ε]
noncomputable instance : Nn (List α) := ⟨fun _ _ => rfl⟩
noncomputable instance : Nn (Vt α) := ⟨fun _ _ => rfl⟩
noncomputable instance : Nn (Lv α) := ⟨fun o x => by obtain ⟨t, l⟩ := x; cases t <;> rfl⟩
noncomputable instance : Nn (α × β) := ⟨fun _ _ => rfl⟩
noncomputable instance : Nn (P1 α) := ⟨fun _ _ => rfl⟩
noncomputable instance : Nn (P3 α β γ) := ⟨fun _ _ => rfl⟩
noncomputable instance : Nn (P4 α β γ δ) := ⟨fun _ _ => rfl⟩
noncomputable instance : Nn (P5 α β γ δ ε) := ⟨fun _ _ => rfl⟩
noncomputable instance [Kc κ] : Nn (Dc κ α) := ⟨fun _ _ => rfl⟩
noncomputable instance {C : Str} {ns : List Str} {φ : Type} [Fs φ] : Nn (Ob C ns φ) := ⟨fun _ _ => rfl⟩
noncomputable instance [Nn α] : Nn (Fz α) := ⟨fun _ x => Nn.nn false x.x⟩
end
noncomputable def lnS (s : Tx) : Option Int := if s.length ≤ lim then some (s.length : Int) else none
noncomputable def ixS (s : Tx) (i : Int) : Option Tx := if s.length ≤ lim then (atI s i).map fun c => [c] else none
noncomputable def cutS (s : Tx) (lo hi : Option Int) : Option Tx := if s.length ≤ lim then some (cutA s lo hi) else none
noncomputable def catS (s u : Tx) : Option Tx := if s.length + u.length ≤ lim then some (s ++ u) else none
noncomputable def catL {α : Type} (s u : List α) : Option (List α) := if s.length + u.length ≤ lim then some (s ++ u) else none
noncomputable def repL {α : Type} (s : List α) (k : Int) : Option (List α) := if k < 1000 ∧ -1000 < k ∧ s.length ≤ 1000 then some (List.replicate k.toNat s).flatten else none
noncomputable def apO {α : Type} (l : List α) (x : α) : Option (List α) := if l.length < lim then some (l ++ [x]) else none
noncomputable def mulO (i j : Int) : Option Int := if smallI i ∨ smallI j then some (i * j) else none
noncomputable def modO (i j : Int) : Option Int := if 0 < j then some (i % j) else none
noncomputable def divO (i j : Int) : Option Int := if 0 < j ∧ j < 2 ^ 200 then some (i / j) else none
noncomputable def powO (i j : Int) : Option Int := if 0 ≤ j ∧ j ≤ 1000000 ∧ i.natAbs < 2 ^ 64 then some (i ^ j.toNat) else none
noncomputable def setO {α : Type} (l : List α) (k : Int) (x : α) : Option (List α) := (ixN l.length k).map fun j => l.set j x
noncomputable def insO {α : Type} (l : List α) (k : Int) (x : α) : Option (List α) := if 0 ≤ k ∧ k < 2 ^ 63 ∧ l.length < lim then some (l.take k.toNat ++ [x] ++ l.drop k.toNat) else none
noncomputable def truS (s : Tx) : Option Bool := if s.length ≤ lim then some (!s.isEmpty) else none
noncomputable def inSx (a s : Tx) : Option Bool := match a with
  | [c] => some (decide (c ∈ s))
  | _ => none
noncomputable def rngO (n : Int) : Option (List Int) := if n < 2 ^ 62 ∧ -(2 ^ 62) ≤ n then some ((List.range n.toNat).map fun i : Nat => (i : Int)) else none
noncomputable def sgs (s : Tx) : List Tx := s.map fun c => [c]
noncomputable def up1c (c : Char) : Char := Char.ofNat (up1 c.toNat)
noncomputable def lo1c (c : Char) : Char := Char.ofNat (lo1 c.toNat)
noncomputable def upS (s : Tx) : Option Tx := if s.length ≤ lim ∧ s.all (fun c => c.toNat < 128) = true then some (s.map up1c) else none
noncomputable def joinX (a : Tx) : List Tx → Tx
  | [] => []
  | [x] => x
  | x :: y :: r => x ++ a ++ joinX a (y :: r)
noncomputable def joinO (a : Tx) (ls : List Tx) : Option Tx := if (ls.map (·.length)).sum + ls.length * a.length ≤ lim then some (joinX a ls) else none
noncomputable def dgO {κ α : Type} [DecidableEq κ] (d : Dc κ α) (k : κ) : Option α := d.l.lookup k
noncomputable def Rt.n : Option Env → Rt
  | some e => .nxt e
  | none => .bad
noncomputable def frA {α : Type} [Cd α] : Option α → Fr
  | some l => .ok (en true ()) [en true l]
  | none => .bad
theorem atI_map {α β : Type} (f : α → β) (l : List α) (i : Int) : atI (l.map f) i = (atI l i).map f := by
  unfold atI; rw [List.length_map]
  cases ixN l.length i with
  | none => rfl
  | some j => simp
theorem cutA_map {α β : Type} (f : α → β) (l : List α) (lo hi : Option Int) : cutA (l.map f) lo hi = (cutA l lo hi).map f := by
  unfold cutA; rw [List.length_map, List.map_take, List.map_drop]
section
variable {α β γ δ ε κ : Type} [Cd α] [Cd β] [Cd γ] [Cd δ] [Cd ε] {o p q : Bool}
theorem frA_s (l : α) : frA (some l) = .ok (en true ()) [en true l] := rfl
theorem q_str (s : Tx) : T.str (nn s) = en true s := rfl
theorem q_lenS (s : Tx) : lenT (en o s) = (lnS s).map (en true) := by
  show (if (nn s).length ≤ lim then _ else _) = _
  unfold lnS; rw [nn_len]; split <;> rfl
theorem q_lenL (l : List α) : lenT (en o l) = some (en true (l.length : Int)) := by
  show some (T.int ((l.map _).length : Int)) = _; rw [List.length_map]; rfl
theorem q_lenV (l : Vt α) : lenT (en o l) = some (en true (l.l.length : Int)) := by
  show some (T.int ((l.l.map _).length : Int)) = _; rw [List.length_map]; rfl
theorem q_lenLv (l : Lv α) : lenT (en o l) = some (en true (l.l.length : Int)) := by
  obtain ⟨t, l⟩ := l; cases t <;> (show some (T.int ((l.map _).length : Int)) = _; rw [List.length_map]; rfl)
theorem q_lenP2 (x : α × β) : lenT (en o x) = some (en true (2 : Int)) := rfl
theorem q_lenP3 (x : P3 α β γ) : lenT (en o x) = some (en true (3 : Int)) := rfl
theorem q_lenSq (x : Scr) : lenT (en o x) = some (en true (x.l.length : Int)) := rfl
theorem q_lenD [Kc κ] (x : Dc κ α) : lenT (en o x) = some (en true (x.l.length : Int)) := by
  show some (T.int ((x.l.map _).length : Int)) = _; rw [List.length_map]; rfl
theorem q_ixL (l : List α) (i : Int) : ixT (en o l) (en p i) = (atI l i).map (en o) := atI_map _ _ _
theorem q_ixV (l : Vt α) (i : Int) : ixT (en o l) (en p i) = (atI l.l i).map (en o) := atI_map _ _ _
theorem q_ixLv (l : Lv α) (i : Int) : ixT (en o l) (en p i) = (atI l.l i).map (en o) := by
  obtain ⟨t, l⟩ := l; cases t <;> exact atI_map _ _ _
theorem q_ixSq (l : Scr) (i : Int) : ixT (en o l) (en p i) = (atI l.l i).map (en true) := rfl
theorem q_ixS (s : Tx) (i : Int) : ixT (en o s) (en p i) = (ixS s i).map (en true) := by
  show (if (nn s).length ≤ lim then (atI (s.map Char.toNat) i).map _ else _) = _
  unfold ixS; rw [nn_len]; split
  · have : atI (s.map Char.toNat) i = (atI s i).map Char.toNat := by
      unfold atI; rw [List.length_map]
      cases ixN s.length i with
      | none => rfl
      | some j => simp
    rw [this]; cases atI s i <;> rfl
  · rfl
theorem q_ix20 (x : α × β) : ixT (en o x) (en p (0 : Int)) = some (en o x.1) := rfl
theorem q_ix21 (x : α × β) : ixT (en o x) (en p (1 : Int)) = some (en o x.2) := rfl
theorem q_ix10 (x : P1 α) : ixT (en o x) (en p (0 : Int)) = some (en o x.a) := rfl
theorem q_ix30 (x : P3 α β γ) : ixT (en o x) (en p (0 : Int)) = some (en o x.a) := rfl
theorem q_ix31 (x : P3 α β γ) : ixT (en o x) (en p (1 : Int)) = some (en o x.b) := rfl
theorem q_ix32 (x : P3 α β γ) : ixT (en o x) (en p (2 : Int)) = some (en o x.c) := rfl
theorem q_ix40 (x : P4 α β γ δ) : ixT (en o x) (en p (0 : Int)) = some (en o x.a) := rfl
theorem q_ix41 (x : P4 α β γ δ) : ixT (en o x) (en p (1 : Int)) = some (en o x.b) := rfl
theorem q_ix42 (x : P4 α β γ δ) : ixT (en o x) (en p (2 : Int)) = some (en o x.c) := rfl
theorem q_ix43 (x : P4 α β γ δ) : ixT (en o x) (en p (3 : Int)) = some (en o x.d) := rfl
theorem q_slS (lo hi : Option Int) (s : Tx) : slT lo hi (en o s) = (cutS s lo hi).map (en true) := by
  show (if (nn s).length ≤ lim then some (T.str (cutA (nn s) lo hi)) else _) = _
  unfold cutS; rw [nn_len]
  have : cutA (nn s) lo hi = nn (cutA s lo hi) := by unfold cutA nn; rw [List.length_map, List.map_take, List.map_drop]
  rw [this]; split <;> rfl
theorem q_slL [Fq α] (lo hi : Option Int) (l : List α) : slT lo hi (en o l) = some (en true (cutA l lo hi)) := by
  show some (T.lst true (cutA (l.map _) lo hi)) = _
  rw [fq_map, cutA_map]; rfl
theorem q_slLz [Nf α] (lo hi : Option Int) (l : List α) : slT lo hi (en false l) = some (en true ((cutA l lo hi).map Fz.mk)) := by
  show some (T.lst true (cutA (l.map _) lo hi)) = some (T.lst true _)
  rw [cutA_map, List.map_map]; rfl
theorem q_addI (i j : Int) : addT (en o i) (en p j) = some (en true (i + j)) := rfl
theorem q_addS (s u : Tx) : addT (en o s) (en p u) = (catS s u).map (en true) := by
  show (if (nn s).length + (nn u).length ≤ lim then some (T.str (nn s ++ nn u)) else _) = _
  unfold catS; rw [nn_len, nn_len, show nn s ++ nn u = nn (s ++ u) by unfold nn; rw [List.map_append]]; split <;> rfl
theorem q_addL [Fq α] (s u : List α) : addT (en o s) (en p u) = (catL s u).map (en true) := by
  show (if (s.map _).length + (u.map _).length ≤ lim then some (T.lst true (s.map _ ++ u.map _)) else _) = _
  unfold catL; rw [List.length_map, List.length_map, fq_map o, fq_map p, ← List.map_append]; split <;> rfl
theorem q_addLz [Nf α] (s u : List α) : addT (en false s) (en false u) = (catL s u).map fun l => en true (l.map Fz.mk) := by
  show (if (s.map _).length + (u.map _).length ≤ lim then some (T.lst true (s.map _ ++ u.map _)) else _) = _
  unfold catL; rw [List.length_map, List.length_map, ← List.map_append]
  split
  · show some (T.lst true _) = some (T.lst true _); rw [List.map_map]; rfl
  · rfl
theorem q_subI (i j : Int) : subT (en o i) (en p j) = some (en true (i - j)) := rfl
theorem q_mulI (i j : Int) : mulT (en o i) (en p j) = (mulO i j).map (en true) := by show (if _ then _ else _) = _; unfold mulO; split <;> rfl
theorem q_mulL [Fq α] [Ow α] (l : List α) (k : Int) : mulT (en o l) (en p k) = (repL l k).map (en true) := by
  show (if k < 1000 ∧ -1000 < k ∧ (l.map (en o)).length ≤ 1000 ∧ (l.map (en o)).all (fun t => t.frz.fresh) = true then some (T.lst true (List.replicate k.toNat ((l.map (en o)).map T.frz)).flatten) else none) = _
  have ha : (l.map (en o)).all (fun t => t.frz.fresh) = true := by
    rw [List.all_map, List.all_eq_true]; intro x _
    show (en o x).frz.fresh = true
    rw [Cd.frz, Fq.fq false]; exact Ow.ow x
  unfold repL
  rw [List.length_map, ha, frz_map, fq_map false, ← List.map_replicate, ← List.map_flatten]
  simp only [and_true]
  split <;> rfl
theorem q_modI (i j : Int) : modT (en o i) (en p j) = (modO i j).map (en true) := by show (if _ then _ else _) = _; unfold modO; split <;> rfl
theorem q_divI (i j : Int) : divT (en o i) (en p j) = (divO i j).map (en true) := by show (if _ then _ else _) = _; unfold divO; split <;> rfl
theorem q_powI (i j : Int) : powT (en o i) (en p j) = (powO i j).map (en true) := by show (if _ then _ else _) = _; unfold powO; split <;> rfl
theorem q_negI (i : Int) : negT (en o i) = some (en true (-i)) := rfl
theorem q_ltI (i j : Int) : ltT (en o i) (en p j) = some (en true (decide (i < j))) := rfl
theorem q_ltS (i j : Tx) : ltT (en o i) (en p j) = some (en true (decide (nn i < nn j))) := rfl
theorem q_leI (i j : Int) : leT (en o i) (en p j) = some (en true (decide (i ≤ j))) := rfl
theorem q_gtI (i j : Int) : gtT (en o i) (en p j) = some (en true (decide (j < i))) := rfl
theorem q_eqI (i j : Int) : eqT (en o i) (en p j) = some (en true (decide (i = j))) := rfl
theorem q_neI (i j : Int) : neT (en o i) (en p j) = some (en true (!decide (i = j))) := rfl
theorem q_eqB (i j : Bool) : eqT (en o i) (en p j) = some (en true (decide (i = j))) := rfl
theorem q_neB (i j : Bool) : neT (en o i) (en p j) = some (en true (!decide (i = j))) := rfl
theorem q_eqS (i j : Tx) : eqT (en o i) (en p j) = some (en true (decide (i = j))) := by
  show some (T.bl (decide (nn i = nn j))) = some (T.bl _)
  congr 2; exact decide_eq_decide.mpr nn_inj
theorem q_neS (i j : Tx) : neT (en o i) (en p j) = some (en true (!decide (i = j))) := by
  show some (T.bl (!decide (nn i = nn j))) = some (T.bl _)
  congr 3; exact decide_eq_decide.mpr nn_inj
theorem q_maxI (i j : Int) : maxT (en o i) (en p j) = some (en true (max i j)) := rfl
theorem q_minI (i j : Int) : minT (en o i) (en p j) = some (en true (min i j)) := rfl
theorem q_inS (a s : Tx) : inB (en o a) (en p s) = inSx a s := by
  unfold inSx
  match a with
  | [c] =>
    show some (decide (c.toNat ∈ nn s)) = some _
    congr 1; apply decide_eq_decide.mpr
    unfold nn; rw [List.mem_map]
    constructor
    · rintro ⟨d, hd, e⟩; rwa [← Char.ext (UInt32.toNat_inj.mp e)]
    · intro h; exact ⟨c, h, rfl⟩
  | [] => rfl
  | _ :: _ :: _ => rfl
theorem q_inT (a b : T) : inT a b = (inB a b).map fun k => en true k := by unfold inT; cases inB a b <;> rfl
/-- scalars -/
class Sc (α : Type) [Cd α] [DecidableEq α] where
  sv : α → V
  sc : ∀ o x, (en o x).sc = some (sv x)
  iv : ∀ a b, eqV (sv b) (sv a) = decide (a = b)
theorem scs_map [DecidableEq α] [Sc α] (l : List α) : scs (l.map (en o)) = some (l.map Sc.sv) := by
  induction l with
  | nil => rfl
  | cons x l ih => rw [List.map_cons, scs, Sc.sc, ih]; rfl
theorem inV_map [DecidableEq α] [Sc α] (a : α) (l : List α) : inV (Sc.sv a) (l.map Sc.sv) = decide (a ∈ l) := by
  unfold inV
  induction l with
  | nil => rfl
  | cons x l ih =>
    rw [List.map_cons, List.any_cons, ih, Sc.iv]
    by_cases h : a = x <;> simp [h]
theorem mem_e [DecidableEq α] [Sc α] (a : α) (l : List α) : memL (en o a) (l.map (en p)) = some (decide (a ∈ l)) := by
  unfold memL; rw [Sc.sc, scs_map]; dsimp only; rw [inV_map]
noncomputable instance : Sc Int := ⟨.int, fun _ _ => rfl, fun a b => by
  show (b == a) = _
  by_cases h : a = b
  · subst h; simp
  · simp [h, Ne.symm h]⟩
noncomputable instance : Sc Bool := ⟨.bl, fun _ _ => rfl, fun a b => by cases a <;> cases b <;> rfl⟩
noncomputable instance sTx : Sc Tx := ⟨fun s => vt (nn s), fun _ _ => rfl, fun a b => by
  show decide (tx (nn b) = tx (nn a)) = _
  apply decide_eq_decide.mpr
  exact ⟨fun h => (nn_inj.mp (tx_inj h)).symm, fun h => by rw [h]⟩⟩
theorem inB_l (a : T) (ts : List T) : inB a (.lst o ts) = memL a ts := by
  cases a with
  | str s => match s with
    | [] => rfl
    | [_] => rfl
    | _ :: _ :: _ => rfl
  | _ => rfl
theorem inB_t (a : T) (ts : List T) : inB a (.tup ts) = memL a ts := by
  cases a with
  | str s => match s with
    | [] => rfl
    | [_] => rfl
    | _ :: _ :: _ => rfl
  | _ => rfl
theorem q_inL [DecidableEq α] [Sc α] (a : α) (l : List α) : inB (en o a) (en p l) = some (memB a l) := by
  show _ = some (decide (a ∈ l)); rw [← mem_e (o := o) (p := p)]; exact inB_l _ _
theorem q_inV [DecidableEq α] [Sc α] (a : α) (l : Vt α) : inB (en o a) (en p l) = some (memB a l.l) := by
  show _ = some (decide (a ∈ l.l)); rw [← mem_e (o := o) (p := p)]; exact inB_t _ _
end
end En
set_option maxRecDepth 100000
set_option maxHeartbeats 1000000
namespace En
open PySem PySem.Spec PyProof.Rows L2 Gk
open Cd (en)
inductive Fl (S E : Type) where
  | go (s : S) | stop (s : S) | out (e : E)
section
variable {α β S E : Type}
noncomputable def forO (l : List α) (s : S) (f : α → S → Option S) : Option S := match l with
  | [] => some s
  | x :: l => (f x s).bind fun s => forO l s f
noncomputable def forX (l : List α) (s : S) (f : α → S → Option (Fl S E)) : Option (S ⊕ E) := match l with
  | [] => some (.inl s)
  | x :: l => (f x s).bind fun r => match r with
    | .go s => forX l s f
    | .stop s => some (.inl s)
    | .out e => some (.inr e)
noncomputable def fmG (l : List α) (s : S) (f : α → S → Option (Option β × S)) : Option (List β × S) := match l with
  | [] => some ([], s)
  | x :: l => (f x s).bind fun r => (fmG l r.2 f).bind fun q => some (r.1.toList ++ q.1, q.2)
noncomputable def fmS (l : List α) (s : S) (f : α → S → Option (Option β × S)) : Option (List β × S) := if l.length ≤ lim then fmG l s f else none
noncomputable def mpS (l : List α) (s : S) (f : α → S → Option (β × S)) : Option (List β × S) := fmS l s fun x s => (f x s).map fun p => (some p.1, p.2)
noncomputable def fmO (l : List α) (f : α → Option (Option β)) : Option (List β) := (fmS l () fun x _ => (f x).map fun p => (p, ())).map (·.1)
noncomputable def mpO (l : List α) (f : α → Option β) : Option (List β) := fmO l fun x => (f x).map some
theorem fmG_nil (s : S) (f : α → S → Option (Option β × S)) : fmG [] s f = some ([], s) := by rw [fmG]
end
section
variable {α β S E : Type} [Cd β] {g : Tgt} {b : Sm} {ex : α → T} {enc : S → Env} {out : E → Rt}
theorem forS_t {f : α → S → Option S} (H : ∀ x s s', f x s = some s' → optR b (g (ex x) (enc s)) = .nxt (enc s')) : ∀ (l : List α) (s s' : S), forO l s f = some s' → forS g b (l.map ex) (enc s) = .nxt (enc s')
  | [], s, s', h => by rw [forO] at h; cases h; rfl
  | x :: l, s, s', h => by
    rw [forO, Option.bind_eq_some_iff] at h
    obtain ⟨s1, h1, h2⟩ := h
    rw [List.map_cons, forS_c, H x s s1 h1]
    exact forS_t H l s1 s' h2
noncomputable def flR (enc : S → Env) (out : E → Rt) : Fl S E → Rt → Prop
  | .go s, r => r = .nxt (enc s) ∨ r = .cnt (enc s)
  | .stop s, r => r = .brk (enc s)
  | .out e, r => r = out e
noncomputable def exR (enc : S → Env) (out : E → Rt) : S ⊕ E → Rt
  | .inl s => .nxt (enc s)
  | .inr e => out e
noncomputable def isX : Rt → Bool
  | .ret _ _ => true
  | .exc _ _ _ => true
  | _ => false
theorem forX_t {f : α → S → Option (Fl S E)} (ho : ∀ e, isX (out e) = true) (H : ∀ x s r, f x s = some r → flR enc out r (optR b (g (ex x) (enc s)))) : ∀ (l : List α) (s : S) (r : S ⊕ E), forX l s f = some r → forS g b (l.map ex) (enc s) = exR enc out r
  | [], s, s', h => by rw [forX] at h; cases h; rfl
  | x :: l, s, s', h => by
    rw [forX, Option.bind_eq_some_iff] at h
    obtain ⟨r1, h1, h2⟩ := h
    have z := H x s r1 h1
    rw [List.map_cons, forS_c]
    cases r1 with
    | go s1 =>
      rcases z with z | z <;> (rw [z]; exact forX_t ho H l s1 s' h2)
    | stop s1 =>
      cases h2
      have z' : optR b (g (ex x) (enc s)) = .brk (enc s1) := z
      rw [z']; rfl
    | out e =>
      cases h2
      have z' : optR b (g (ex x) (enc s)) = out e := z
      rw [z']
      have := ho e
      show Rt.lp _ (out e) = out e
      cases he : out e with
      | ret t e => rfl
      | exc C t e => rfl
      | _ => rw [he] at this; cases this
variable {vs : List Nat} {c : M Bool} {el : M T}
theorem fmG_t {f : α → S → Option (Option β × S)} (H : ∀ x s o s', f x s = some (o, s') → lcB vs g c el (ex x) (enc s) = .ok (o.map (en true)) (enc s')) : ∀ (l : List α) (acc : List β) (s : S) (ys : List β) (s' : S), fmG l s f = some (ys, s') → acc.length + l.length ≤ lim → lcL vs g c el (l.map ex) (acc.map (en true)) (enc s) = .ok (en true (acc ++ ys)) (enc s')
  | [], acc, s, ys, s', h, hl => by rw [fmG] at h; cases h; rw [List.append_nil]; rfl
  | x :: l, acc, s, ys, s', h, hl => by
    rw [fmG, Option.bind_eq_some_iff] at h
    obtain ⟨⟨o, s1⟩, h1, h2⟩ := h
    rw [Option.bind_eq_some_iff] at h2
    obtain ⟨⟨ys1, s2⟩, h2, h3⟩ := h2
    cases h3
    rw [List.length_cons] at hl
    rw [List.map_cons, lcL_c (H x s o s1 h1) (by rw [List.length_map]; omega)]
    have e : acc.map (en true) ++ (o.map (en true)).toList = (acc ++ o.toList).map (en true) := by cases o <;> simp
    rw [e, fmG_t H l (acc ++ o.toList) s1 ys1 _ h2 (by rw [List.length_append]; cases o <;> simp only [Option.toList, List.length_nil, List.length_singleton] <;> omega), List.append_assoc]
theorem fmS_t {f : α → S → Option (Option β × S)} (H : ∀ x s o s', f x s = some (o, s') → lcB vs g c el (ex x) (enc s) = .ok (o.map (en true)) (enc s')) {l : List α} {s : S} {ys : List β} {s' : S} (h : fmS l s f = some (ys, s')) : lcL vs g c el (l.map ex) [] (enc s) = .ok (en true ys) (enc s') := by
  unfold fmS at h
  split at h
  · rename_i hl; exact fmG_t H l [] s ys s' h (by rw [List.length_nil]; omega)
  · cases h
theorem mpS_t {f : α → S → Option (β × S)} (H : ∀ x s o s', f x s = some (o, s') → lcB vs g c el (ex x) (enc s) = .ok (some (en true o)) (enc s')) {l : List α} {s : S} {ys : List β} {s' : S} (h : mpS l s f = some (ys, s')) : lcL vs g c el (l.map ex) [] (enc s) = .ok (en true ys) (enc s') :=
  fmS_t (fun x s o s' h => by
    simp only [Option.map_eq_some_iff] at h
    obtain ⟨⟨y, s1⟩, h1, h2⟩ := h
    cases h2
    exact H x s y s1 h1) h
theorem fmO_t {env : Env} {f : α → Option (Option β)} (H : ∀ x o, f x = some o → lcB vs g c el (ex x) env = .ok (o.map (en true)) env) {l : List α} {ys : List β} (h : fmO l f = some ys) : lcL vs g c el (l.map ex) [] env = .ok (en true ys) env := by
  unfold fmO at h
  simp only [Option.map_eq_some_iff] at h
  obtain ⟨⟨y, s1⟩, h1, h2⟩ := h
  cases h2
  exact fmS_t (enc := fun _ : Unit => env) (fun x s o s' h => by
    simp only [Option.map_eq_some_iff] at h
    obtain ⟨a, h1, h2⟩ := h
    cases h2
    exact H x _ h1) h1
theorem mpO_t {env : Env} {f : α → Option β} (H : ∀ x o, f x = some o → lcB vs g c el (ex x) env = .ok (some (en true o)) env) {l : List α} {ys : List β} (h : mpO l f = some ys) : lcL vs g c el (l.map ex) [] env = .ok (en true ys) env :=
  fmO_t (fun x o h => by
    simp only [Option.map_eq_some_iff] at h
    obtain ⟨a, h1, h2⟩ := h
    cases h2
    exact H x _ h1) h
end
section
variable {α β γ δ ε κ : Type} [Cd α] [Cd β] [Cd γ] [Cd δ] [Cd ε] {o p : Bool}
theorem q_itL (l : List α) : (en o l).items = some (l.map (en o)) := rfl
theorem q_itV (l : Vt α) : (en o l).items = some (l.l.map (en o)) := rfl
theorem q_itLv (l : Lv α) : (en o l).items = some (l.l.map (en o)) := by obtain ⟨t, l⟩ := l; cases t <;> rfl
theorem q_itS (s : Tx) : (en o s).items = some ((sgs s).map (en true)) := by
  show some ((nn s).map _) = _
  unfold nn sgs; rw [List.map_map, List.map_map]; rfl
theorem q_rng1 (n : Int) : rngT1 [en o n] = (rngO n).map fun l => l.map (en true) := by
  show (if _ then _ else _) = _
  unfold rngO; split
  · rw [Option.map_some, List.map_map]; rfl
  · rfl
theorem q_zip (a : List α) (b : List β) : zipT [en o a, en o b] = some ((a.zip b).map (en o)) := by
  show some (((a.map (en o)).zip (b.map (en o))).map _) = _
  rw [List.zip_map, List.map_map]; rfl
theorem q_tg2 (gs : List Tgt) (e : Env) (x : α × β) : tgU gs e (en o x) = tgs gs [en o x.1, en o x.2] e := rfl
theorem q_tg3 (gs : List Tgt) (e : Env) (x : P3 α β γ) : tgU gs e (en o x) = tgs gs [en o x.a, en o x.b, en o x.c] e := rfl
theorem q_tg4 (gs : List Tgt) (e : Env) (x : P4 α β γ δ) : tgU gs e (en o x) = tgs gs [en o x.a, en o x.b, en o x.c, en o x.d] e := rfl
theorem q_tg5 (gs : List Tgt) (e : Env) (x : P5 α β γ δ ε) : tgU gs e (en o x) = tgs gs [en o x.a, en o x.b, en o x.c, en o x.d, en o x.e] e := rfl
theorem q_bM (b : Bool) (e : Env) : (en o b).bM e = .ok b e := rfl
theorem q_iM (i : Int) (e : Env) : (en o i).iM e = .ok (some i) e := rfl
theorem q_truB (b : Bool) : (en o b).tru = some b := rfl
theorem q_truI (i : Int) : (en o i).tru = some (i != 0) := rfl
theorem q_truL (l : List α) : (en o l).tru = some (!l.isEmpty) := by cases l <;> rfl
theorem q_truS (s : Tx) : (en o s).tru = truS s := by
  show (if (nn s).length ≤ lim then some (!(nn s).isEmpty) else none) = _
  unfold truS; rw [nn_len]; cases s <;> rfl
theorem q_chkL (l : List α) : chkL (en o l) = true := rfl
theorem q_chkS (l : Tx) : chkS (en o l) = true := rfl
theorem q_app (l : List α) (x : α) : appF [en true l, en true x] = frA (apO l x) := by
  show (if (l.map (en true)).length < lim then _ else _) = _
  unfold apO; rw [List.length_map]; split
  · show Fr.ok _ [T.lst true _] = Fr.ok _ [T.lst true _]; rw [List.map_append]; rfl
  · rfl
theorem q_clear (l : List α) : clrF [en true l] = .ok (en true ()) [en true ([] : List α)] := rfl
theorem q_setL (l : List α) (k : Int) (x : α) : setF [en true l, en o k, en true x] = frA (setO l k x) := by
  show (match ixN (l.map (en true)).length k with | some j => _ | none => _) = _
  unfold setO; rw [List.length_map]
  cases ixN l.length k with
  | none => rfl
  | some j => show Fr.ok _ [T.lst true _] = Fr.ok _ [T.lst true _]; rw [List.map_set]; rfl
theorem q_listL [Fq α] (l : List α) : listT (en o l) = some (en true l) := by show some (T.lst true _) = some (T.lst true _); rw [fq_map]
theorem q_listV [Fq α] (l : Vt α) : listT (en o l) = some (en true l.l) := by show some (T.lst true _) = some (T.lst true _); rw [fq_map]
theorem q_listLv [Fq α] (l : Lv α) : listT (en o l) = some (en true l.l) := by obtain ⟨t, l⟩ := l; cases t <;> (show some (T.lst true _) = some (T.lst true _); rw [fq_map])
theorem q_listLz [Nf α] (l : List α) : listT (en false l) = some (en true (l.map Fz.mk)) := by show some (T.lst true _) = some (T.lst true _); rw [List.map_map]; rfl
theorem q_tupleL (l : List α) : tupleT (en o l) = some (en o (Vt.mk l)) := rfl
theorem q_tupleV (l : Vt α) : tupleT (en o l) = some (en o l) := rfl
theorem q_tyB (b : Bool) : tyT (en o b) = some "bool" := rfl
theorem q_tyI (b : Int) : tyT (en o b) = some "int" := rfl
theorem q_tyN (b : Unit) : tyT (en o b) = some "NoneType" := rfl
theorem q_tyS (b : Tx) : tyT (en o b) = some "str" := rfl
theorem q_tyL (b : List α) : tyT (en o b) = some "list" := rfl
theorem q_tyV (b : Vt α) : tyT (en o b) = some "tuple" := rfl
theorem q_ty1 (b : P1 α) : tyT (en o b) = some "tuple" := rfl
theorem q_ty2 (b : α × β) : tyT (en o b) = some "tuple" := rfl
theorem q_ty3 (b : P3 α β γ) : tyT (en o b) = some "tuple" := rfl
theorem q_ty4 (b : P4 α β γ δ) : tyT (en o b) = some "tuple" := rfl
theorem q_ty5 (b : P5 α β γ δ ε) : tyT (en o b) = some "tuple" := rfl
theorem q_tyD [Kc κ] (b : Dc κ α) : tyT (en o b) = some "dict" := rfl
theorem q_tyLv (x : Lv α) : tyT (en o x) = some (if x.t = true then "tuple" else "list") := by obtain ⟨t, l⟩ := x; cases t <;> rfl
theorem q_isLvL (x : Lv α) : isiT (en o x) (.ty "list") = some (en true (!x.t)) := by obtain ⟨t, l⟩ := x; cases t <;> rfl
theorem q_isN [Nn α] (x : Option α) : isT (en o x) (en p ()) = some (en true x.isNone) := by
  cases x with
  | none => rfl
  | some a => show (en o a).isNon.map _ = _; rw [Nn.nn]; rfl
theorem q_isnN [Nn α] (x : Option α) : isnT (en o x) (en p ()) = some (en true x.isSome) := by
  cases x with
  | none => rfl
  | some a => show (en o a).isNon.map _ = _; rw [Nn.nn]; rfl
theorem q_isn' [Nn α] (x : α) : isnT (en o x) (en p ()) = some (en true true) := by show (en o x).isNon.map _ = _; rw [Nn.nn]; rfl
theorem q_is' [Nn α] (x : α) : isT (en o x) (en p ()) = some (en true false) := by show (en o x).isNon.map _ = _; rw [Nn.nn]; rfl
theorem q_none (o : Bool) : en o (none : Option α) = en true () := rfl
theorem q_some (o : Bool) (x : α) : en o (some x) = en o x := rfl
end
end En
set_option maxRecDepth 100000
set_option maxHeartbeats 1000000
namespace En
open PySem PySem.Spec PyProof.Rows L2 Gk
open Cd (en)
section
variable {α β : Type}
theorem bs {x : Option α} {f : α → Option β} {b : β} (h : (x >>= f) = some b) : ∃ a, x = some a ∧ f a = some b := Option.bind_eq_some_iff.mp h
theorem po {a b : α} (h : (pure a : Option α) = some b) : a = b := Option.some.inj h
theorem dsp_l {ts : List T} {t : T} (h : ts.length ≤ lim) (e : T.lst true ts = t) : lstF' ts = .ok t [] := by rw [← e]; exact if_pos h
theorem dsp_t {ts : List T} {t : T} (h : ts.length ≤ lim) (e : T.tup ts = t) : tupF' ts = .ok t [] := by rw [← e]; exact if_pos h
theorem mulO_l (i j : Int) (h : -(2 ^ 64) < i ∧ i < 2 ^ 64) : mulO i j = some (i * j) := if_pos (.inl h)
theorem modO_p (i j : Int) (h : 0 < j) : modO i j = some (i % j) := if_pos h
theorem divO_p (i j : Int) (h : 0 < j ∧ j < 2 ^ 200) : divO i j = some (i / j) := if_pos h
theorem nrmE_e (K Z : List Nat) (e : Env) : nrmE K Z e = unbS K (frzS Z e) := rfl
theorem nrmS_e (kn zn kb zb kx zx : List Nat) (m : Sm) (e : Env) : nrmS kn zn kb zb kx zx m e = nrmR kn zn kb zb kx zx (m e) := rfl
theorem nrmP_e (K Z : List Nat) (e : Env) : nrmP K Z e = .nxt (nrmE K Z e) := rfl
theorem nrmR_n (kn zn kb zb kx zx : List Nat) (e : Env) : nrmR kn zn kb zb kx zx (.nxt e) = .nxt (nrmE kn zn e) := rfl
theorem nrmR_b (kn zn kb zb kx zx : List Nat) (e : Env) : nrmR kn zn kb zb kx zx (.brk e) = .brk (nrmE kb zb e) := rfl
theorem nrmR_c (kn zn kb zb kx zx : List Nat) (e : Env) : nrmR kn zn kb zb kx zx (.cnt e) = .cnt (nrmE kb zb e) := rfl
theorem nrmR_r (kn zn kb zb kx zx : List Nat) (t : T) (e : Env) : nrmR kn zn kb zb kx zx (.ret t e) = .ret t (nrmE kx zx e) := rfl
theorem nrmR_x (kn zn kb zb kx zx : List Nat) (C : Str) (t : T) (e : Env) : nrmR kn zn kb zb kx zx (.exc C t e) = .exc C t (nrmE kx zx e) := rfl
noncomputable def Rs.fz (Z : List Nat) : Rs α → Rs α
  | .ok t e' => .ok t (frzS Z e')
  | .exc C x e => .exc C x e
  | .bad => .bad
noncomputable def Rs.fv : Rs T → Rs T
  | .ok t e' => .ok t.frz e'
  | .exc C x e => .exc C x e
  | .bad => .bad
theorem rsf_ok (Z : List Nat) (t : α) (e : Env) : (Rs.ok t e).fz Z = .ok t (frzS Z e) := rfl
theorem rsf_exc (Z : List Nat) (C : Str) (x : T) (e : Env) : (Rs.exc C x e : Rs α).fz Z = .exc C x e := rfl
theorem rsv_ok (t : T) (e : Env) : (Rs.ok t e).fv = .ok t.frz e := rfl
theorem rsv_exc (C : Str) (x : T) (e : Env) : (Rs.exc C x e : Rs T).fv = .exc C x e := rfl
theorem exR_l {S E : Type} (enc : S → Env) (out : E → Rt) (s : S) : exR enc out (.inl s) = .nxt (enc s) := rfl
theorem exR_r {S E : Type} (enc : S → Env) (out : E → Rt) (s : E) : exR enc out (.inr s) = out s := rfl
theorem mk_ok' (s : T) (os : List T) : (Fr.ok (en true ()) (s :: os)).mk = .ok s os := rfl
end
theorem q_ob0 (C : Str) : T.ins true C [] [] = en true (Ob.mk () : Ob C [] Unit) := rfl
theorem frzS_at : ∀ (I : List Nat) (e : Env) (k : Nat), (frzS I e)[k]? = if k ∈ I then (e[k]?).map T.frz else e[k]?
  | [], e, k => by simp [frzS]
  | i :: r, e, k => by
    rw [frzS_cons, frzS_at r]
    have fz : (frzC i e e[i]?)[k]? = if k = i then (e[k]?).map T.frz else e[k]? := by
      cases h : e[i]? with
      | none =>
        rw [show frzC i e none = e from rfl]
        split
        · rename_i hk; subst hk; rw [h]; rfl
        · rfl
      | some t =>
        rw [frzC_s]
        split
        · rename_i hk; subst hk; rw [h]
          rw [List.getElem?_set_self (List.getElem?_eq_some_iff.mp h).1]; rfl
        · rename_i hk; rw [List.getElem?_set_ne (fun z => hk z.symm)]
    rw [fz]
    by_cases hk : k = i
    · subst hk
      simp only [if_true, List.mem_cons, true_or]
      split
      · cases e[k]? with
        | none => rfl
        | some t => simp [frz_frz]
      · rfl
    · simp only [hk, if_false, List.mem_cons, false_or]
theorem frzS_idem (I : List Nat) (e : Env) : frzS I (frzS I e) = frzS I e := by
  apply List.ext_getElem?; intro k
  rw [frzS_at, frzS_at]
  split
  · cases e[k]? with
    | none => rfl
    | some t => simp [frz_frz]
  · rfl
theorem frzS_len (I : List Nat) (e : Env) : (frzS I e).length = e.length := by
  induction I generalizing e with
  | nil => rfl
  | cons i r ih => rw [frzS_cons, ih]; cases e[i]? <;> simp [frzC]
theorem frzS_set (I : List Nat) (e : Env) (j : Nat) (o : T) (h : j ∉ I) : frzS I (e.set j o) = (frzS I e).set j o := by
  apply List.ext_getElem?; intro k
  rw [frzS_at]
  by_cases hk : j = k
  · subst hk
    rw [if_neg h]
    by_cases hl : j < e.length
    · rw [List.getElem?_set_self hl, List.getElem?_set_self (by rw [frzS_len]; exact hl)]
    · rw [List.getElem?_eq_none (by simpa using hl), List.getElem?_eq_none (by rw [List.length_set, frzS_len]; omega)]
  · rw [List.getElem?_set_ne hk, List.getElem?_set_ne hk, frzS_at]
theorem frzS_putS (I : List Nat) : ∀ (J : List Nat) (os : List T) (e : Env), (∀ j ∈ J, j ∉ I) → frzS I (putS J os e) = putS J os (frzS I e)
  | [], os, e, h => by rw [putS_nil, putS_nil]
  | j :: r, [], e, h => by rw [show putS (j :: r) [] e = e by rfl]; rfl
  | j :: r, o :: os, e, h => by rw [putS_cons, putS_cons, frzS_putS I r os _ (fun x hx => h x (List.mem_cons_of_mem _ hx)), frzS_set I e j o (h j List.mem_cons_self)]
theorem frzS_stl (b : Bool) (I J : List Nat) (os : List T) (e : Env) (h : (J.all fun j => !I.contains j) = true) : frzS I (settle b I J os e) = putS J os (frzS I e) := by
  have h' : ∀ j ∈ J, j ∉ I := fun j hj hi => by
    have := List.all_eq_true.mp h j hj
    simp at this; exact this hi
  cases b with
  | true => rw [settle_t, frzS_putS I J os e h']
  | false => rw [settle_f, frzS_putS I J os _ h', frzS_idem]
section
variable {α β κ : Type} [Cd α] [Cd β] {o p : Bool}
theorem q_mq [Fq α] (l : List α) : l.map (en false) = l.map (en true) := fq_map false l
theorem q_lvL (l : List α) : en o (Lv.mk false l) = en o l := rfl
theorem q_lvV (l : List α) : en o (Lv.mk true l) = en o (Vt.mk l) := rfl
theorem q_lvV2 (l : Vt α) : en o (Lv.mk true l.l) = en o l := rfl
theorem strs_map (ls : List Tx) : strsOf (ls.map (en o)) = some (ls.map nn) := by
  induction ls with
  | nil => rfl
  | cons x ls ih => rw [List.map_cons]; show (strsOf (ls.map (en o))).map (nn x :: ·) = _; rw [ih]; rfl
theorem joinX_nn (a : Tx) : ∀ ls : List Tx, TL.joinL (nn a) (ls.map nn) = nn (joinX a ls)
  | [] => rfl
  | [x] => rfl
  | x :: y :: r => by
    have ih := joinX_nn a (y :: r)
    show TL.joinL (nn a) (nn x :: nn y :: r.map nn) = nn (x ++ a ++ joinX a (y :: r))
    have e : TL.joinL (nn a) (nn x :: nn y :: r.map nn) = nn x ++ (nn a ++ TL.joinL (nn a) ((y :: r).map nn)) := by first | rfl | (simp [TL.joinL]) 
    rw [e, ih]; unfold nn; simp only [List.map_append, List.append_assoc]
theorem sum_nn (ls : List Tx) : ((ls.map nn).map (·.length)).sum = (ls.map (·.length)).sum := by
  rw [List.map_map]; congr 1; apply List.map_congr_left; intro x _; exact nn_len x
theorem q_joinL (a : Tx) (ls : List Tx) : joinT (en o a) (en p ls) = (joinO a ls).map (en true) := by
  show (match strsOf (ls.map (en p)) with | some ls => _ | none => _) = _
  rw [strs_map]; dsimp only
  rw [sum_nn, List.length_map, nn_len, joinX_nn]
  unfold joinO; split <;> rfl
theorem q_joinV (a : Tx) (ls : Vt Tx) : joinT (en o a) (en p ls) = (joinO a ls.l).map (en true) := by
  show (match strsOf (ls.l.map (en p)) with | some ls => _ | none => _) = _
  rw [strs_map]; dsimp only
  rw [sum_nn, List.length_map, nn_len, joinX_nn]
  unfold joinO; split <;> rfl
theorem up1_lt {c : Nat} (h : c < 128) : up1 c < 128 := by unfold up1; split <;> omega
theorem ofn {c : Nat} (h : c < 128) : (Char.ofNat c).toNat = c := by
  have hv : Nat.isValidChar c := Or.inl (by omega)
  unfold Char.ofNat
  rw [dif_pos hv]
  show (Char.ofNatAux c hv).val.toNat = c
  rfl
theorem all_nn (s : Tx) : (nn s).all (· < 128) = s.all (fun c => c.toNat < 128) := by unfold nn; rw [List.all_map]; rfl
theorem q_upper (s : Tx) : upperT (en o s) = (upS s).map (en true) := by
  show (if (nn s).length ≤ lim ∧ (nn s).all (· < 128) = true then some (T.str ((nn s).map up1)) else none) = _
  unfold upS; rw [nn_len, all_nn]
  split
  · rename_i h
    have : (nn s).map up1 = nn (s.map up1c) := by
      unfold nn; rw [List.map_map, List.map_map]; apply List.map_congr_left; intro c hc
      have := List.all_eq_true.mp h.2 c hc
      simp only [decide_eq_true_eq] at this
      exact (ofn (up1_lt this)).symm
    rw [this]; rfl
  · rfl
theorem q_sbL (b : Bool) : subB (if b = true then "tuple" else "list") "list" = some (!b) := by cases b <;> decide +kernel
theorem q_sbT (b : Bool) : subB (if b = true then "tuple" else "list") "tuple" = some b := by cases b <;> decide +kernel
theorem q_sbS (b : Bool) : subB (if b = true then "tuple" else "list") "str" = some false := by cases b <;> decide +kernel
theorem q_sbD (b : Bool) : subB (if b = true then "tuple" else "list") "dict" = some false := by cases b <;> decide +kernel
class Kk (κ : Type) [Cd κ] [Kc κ] : Prop where
  kt : ∀ o (k : κ), keyT (en o k) = some (Kc.ky k)
noncomputable instance : Kk Int := ⟨fun _ _ => rfl⟩
noncomputable instance kTx : Kk Tx := ⟨fun _ _ => rfl⟩
noncomputable def dsO {κ α : Type} [DecidableEq κ] (d : Dc κ α) (k : κ) (x : α) : Option (Dc κ α) :=
  if d.l.length < lim then some ⟨if k ∈ d.l.map (·.1) then d.l.map (fun p => if p.1 = k then (p.1, x) else p) else d.l ++ [(k, x)]⟩ else none
variable [Cd κ] [Kc κ] [DecidableEq κ]
theorem any_ky (l : List (κ × α)) (k : κ) : ((l.map fun p => Kc.ky p.1).any fun c => decide (c = Kc.ky k)) = decide (k ∈ l.map (·.1)) := by
  induction l with
  | nil => rfl
  | cons p l ih =>
    rw [List.map_cons, List.any_cons, ih, List.map_cons]
    by_cases h : p.1 = k
    · simp [h]
    · have : ¬ Kc.ky p.1 = Kc.ky k := fun e => h (Kc.inj _ _ e)
      simp [this, Ne.symm h]
theorem look_ky (l : List (κ × α)) (k : κ) : lookK (Kc.ky k) (l.map fun p => Kc.ky p.1) (l.map fun p => en o p.2) = (l.lookup k).map (en o) := by
  induction l with
  | nil => rfl
  | cons p l ih =>
    rw [List.map_cons, List.map_cons]
    show (if Kc.ky p.1 = Kc.ky k then some (en o p.2) else lookK (Kc.ky k) _ _) = _
    obtain ⟨a, b⟩ := p
    by_cases h : a = k
    · subst h; rw [if_pos rfl, List.lookup_cons]; simp
    · rw [if_neg (fun e => h (Kc.inj _ _ e)), ih, List.lookup_cons]
      have : (k == a) = false := beq_eq_false_iff_ne.mpr (Ne.symm h)
      rw [this]
theorem q_ixD [Kk κ] (d : Dc κ α) (k : κ) : ixT (en o d) (en p k) = (dgO d k).map (en o) := by
  show (match keyT (en p k) with | some k => lookK k _ _ | none => none) = _
  rw [Kk.kt]; exact look_ky d.l k
theorem zip_set (l : List (κ × α)) (k : κ) (x : α) : List.zipWith (fun c t => if c = Kc.ky k then en true x else t) (l.map fun p => Kc.ky p.1) (l.map fun p => en true p.2) = (l.map (fun p => if p.1 = k then (p.1, x) else p)).map fun p => en true p.2 := by
  induction l with
  | nil => rfl
  | cons p l ih =>
    rw [List.map_cons, List.map_cons, List.zipWith_cons_cons, ih, List.map_cons, List.map_cons]
    by_cases h : p.1 = k
    · simp [h]
    · have : ¬ Kc.ky p.1 = Kc.ky k := fun e => h (Kc.inj _ _ e)
      simp [h, this]
theorem keys_set (l : List (κ × α)) (k : κ) (x : α) : ((l.map (fun p => if p.1 = k then (p.1, x) else p)).map fun p => Kc.ky p.1) = l.map fun p => Kc.ky p.1 := by
  rw [List.map_map]; apply List.map_congr_left; intro p _; dsimp only [Function.comp]; split <;> rfl
theorem q_setD [Kk κ] [Fq α] (d : Dc κ α) (k : κ) (x : α) : setF [en true d, en p k, en o x] = frA (dsO d k x) := by
  show (match keyT (en p k).un with | some k => _ | none => _) = _
  rw [Cd.un, Kk.kt]
  show (if (d.l.map _).length < lim then Fr.ok .non [.dct true _ _] else .bad) = _
  rw [Cd.frz, Fq.fq false]
  unfold dsO; rw [List.length_map]
  split
  · unfold putK2
    rw [any_ky]
    by_cases h : k ∈ d.l.map (·.1)
    · rw [if_pos (decide_eq_true h), if_pos h]
      show Fr.ok _ [T.dct true _ _] = Fr.ok _ [T.dct true _ _]
      rw [zip_set, keys_set]; rfl
    · rw [if_neg (by simpa using h), if_neg h]
      show Fr.ok _ [T.dct true _ _] = Fr.ok _ [T.dct true _ _]
      rw [List.map_append, List.map_append]; rfl
  · rfl
theorem q_inD [Kk κ] (a : κ) (d : Dc κ α) : inB (en o a) (en p d) = some (memB a (d.l.map (·.1))) := by
  have h : ∀ (t : T) (ks : List Ky) (ts : List T), inB t (.dct p ks ts) = (keyT t).map fun k => ks.any fun c => decide (c = k) := by
    intro t ks ts
    cases t with
    | str s => match s with
      | [] => rfl
      | [_] => rfl
      | _ :: _ :: _ => rfl
    | _ => rfl
  show inB (en o a) (.dct p _ _) = some (decide _)
  rw [h, Kk.kt, Option.map_some, any_ky]
end
section
variable {α β γ : Type} [Cd α] [Cd β] [Cd γ] {o p : Bool}
theorem q_appZ (l : List (Fz α)) (x : α) : appF [en true l, en false x] = frA (apO l (Fz.mk x)) := q_app l (Fz.mk x)
theorem q_setLZ (l : List (Fz α)) (k : Int) (x : α) : setF [en true l, en o k, en false x] = frA (setO l k (Fz.mk x)) := q_setL l k (Fz.mk x)
theorem q_inT2 [DecidableEq α] [Sc α] (a : α) (x : α × α) : inB (en o a) (en p x) = some (memB a [x.1, x.2]) := q_inV a ⟨[x.1, x.2]⟩
theorem q_inT3 [DecidableEq α] [Sc α] (a : α) (x : P3 α α α) : inB (en o a) (en p x) = some (memB a [x.a, x.b, x.c]) := q_inV a ⟨[x.a, x.b, x.c]⟩
theorem en_some {x : Option α} {y : α} (h : x = some y) : ∀ o, en o x = en o y := fun o => by rw [h]; rfl
end
end En
set_option maxRecDepth 100000
set_option maxHeartbeats 1000000
namespace En
open PySem PySem.Spec PyProof.Rows L2 Gk
open Cd (en)
open PySem.W (alike alikeAll dataLt keyToks keyToksAll)
class Da (α : Type) [Cd α] [DecidableEq α] where
  dat : α → PyData
  n : Nat
  ok : ∀ o x, (en o x).data = some (dat x)
  cl : ∀ x, (dat x).canLay0 = true
  dp : ∀ x, (dat x).depth ≤ n
  nd : ∀ x, noD (dat x) = true
  eq : ∀ x y, PyData.eqv (dat x) (dat y) = decide (x = y)
/-- never None -/
class Db (α : Type) [Cd α] [DecidableEq α] [Da α] : Prop where
  nn : ∀ x : α, PyData.eqv .none (Da.dat x) = false ∧ PyData.eqv (Da.dat x) .none = false ∧ Da.dat x ≠ .none
theorem char_lt (c : Char) : c.toNat < 0x110000 := by
  have := c.valid
  rcases this with h | ⟨_, h⟩
  · have : c.toNat < 0xd800 := h; omega
  · exact h
theorem tx_dec (a b : Tx) : decide (tx (nn a) = tx (nn b)) = decide (a = b) := decide_eq_decide.mpr ⟨fun h => nn_inj.mp (tx_inj h), fun h => by rw [h]⟩
noncomputable instance : Da Int := ⟨.int, 0, fun _ _ => rfl, fun _ => rfl, fun _ => Nat.le_refl _, fun _ => rfl, fun x y => by show (x == y) = _; by_cases h : x = y <;> simp [h]⟩
noncomputable instance : Da Bool := ⟨.bool, 0, fun _ _ => rfl, fun _ => rfl, fun _ => Nat.le_refl _, fun _ => rfl, fun x y => by cases x <;> cases y <;> rfl⟩
noncomputable instance : Da Unit := ⟨fun _ => .none, 0, fun _ _ => rfl, fun _ => rfl, fun _ => Nat.le_refl _, fun _ => rfl, fun x y => by cases x; cases y; rfl⟩
noncomputable instance dTx : Da Tx := ⟨fun s => .str (tx (nn s)), 0, fun _ _ => rfl, fun s => strOk_tx (fun c hc => by
  unfold nn at hc; rw [List.mem_map] at hc; obtain ⟨d, _, rfl⟩ := hc; exact char_lt d), fun _ => Nat.le_refl _, fun _ => rfl, fun x y => by
  show (tx (nn x) == tx (nn y)) = _
  rw [← tx_dec]
  by_cases h : tx (nn x) = tx (nn y) <;> simp [h]⟩
noncomputable instance : Db Int := ⟨fun _ => ⟨rfl, rfl, fun h => by cases h⟩⟩
noncomputable instance : Db Bool := ⟨fun _ => ⟨rfl, rfl, fun h => by cases h⟩⟩
noncomputable instance bTx : Db Tx := ⟨fun _ => ⟨rfl, rfl, fun h => by cases h⟩⟩
section
variable {α β γ δ : Type} [Cd α] [Cd β] [Cd γ] [Cd δ] [DecidableEq α] [DecidableEq β] [DecidableEq γ] [DecidableEq δ] [Da α] [Da β] [Da γ] [Da δ] {o p : Bool}
theorem datA_map (o : Bool) (l : List α) : T.dataA (l.map (en o)) = some (l.map Da.dat) := by
  induction l with
  | nil => exact dat_nil
  | cons x l ih => rw [List.map_cons]; exact dat_cons (Da.ok o x) ih
theorem clA (l : List α) : PyData.canLayAll0 (l.map Da.dat) = true := by
  induction l with
  | nil => rfl
  | cons x l ih => show ((Da.dat x).canLay0 && PyData.canLayAll0 (l.map Da.dat)) = true; rw [Da.cl, ih]; rfl
theorem dpA (l : List α) : PyData.depthAll (l.map Da.dat) ≤ Da.n α := by
  induction l with
  | nil => exact Nat.zero_le _
  | cons x l ih => show max (Da.dat x).depth (PyData.depthAll (l.map Da.dat)) ≤ _; have := Da.dp x; omega
theorem ndA (l : List α) : noDA (l.map Da.dat) = true := by
  induction l with
  | nil => rfl
  | cons x l ih => show (noD (Da.dat x) && noDA (l.map Da.dat)) = true; rw [Da.nd, ih]; rfl
theorem eqA : ∀ l m : List α, PyData.eqvAll (l.map Da.dat) (m.map Da.dat) = decide (l = m)
  | [], [] => by simp [PyData.eqvAll]
  | [], _ :: _ => by simp [PyData.eqvAll]
  | _ :: _, [] => by simp [PyData.eqvAll]
  | x :: l, y :: m => by
    show (PyData.eqv (Da.dat x) (Da.dat y) && PyData.eqvAll (l.map Da.dat) (m.map Da.dat)) = _
    rw [Da.eq, eqA l m]
    by_cases h : x = y <;> by_cases h2 : l = m <;> simp [h, h2]
noncomputable instance dL : Da (List α) := ⟨fun l => .list (l.map Da.dat), Da.n α + 1, fun o l => by show (T.dataA _).map _ = _; rw [datA_map]; rfl, clA, fun l => Nat.succ_le_succ (dpA l), ndA, eqA⟩
noncomputable instance bL : Db (List α) := ⟨fun _ => ⟨rfl, rfl, fun h => by cases h⟩⟩
noncomputable instance dV : Da (Vt α) := ⟨fun l => .tuple (l.l.map Da.dat), Da.n α + 1, fun o l => by show (T.dataA _).map _ = _; rw [datA_map]; rfl, fun l => clA l.l, fun l => Nat.succ_le_succ (dpA l.l), fun l => ndA l.l, fun x y => by
  show PyData.eqvAll _ _ = _
  rw [eqA]; obtain ⟨x⟩ := x; obtain ⟨y⟩ := y
  by_cases h : x = y <;> simp [h]⟩
noncomputable instance bV : Db (Vt α) := ⟨fun _ => ⟨rfl, rfl, fun h => by cases h⟩⟩
noncomputable instance dP : Da (α × β) := ⟨fun x => .tuple [Da.dat x.1, Da.dat x.2], max (Da.n α) (Da.n β) + 1, fun o x => by
    show (T.dataA [en o x.1, en o x.2]).map _ = _; rw [dat_cons (Da.ok o x.1) (dat_cons (Da.ok o x.2) dat_nil)]; rfl,
  fun x => by show ((Da.dat x.1).canLay0 && ((Da.dat x.2).canLay0 && true)) = true; rw [Da.cl, Da.cl]; rfl,
  fun x => by show max (Da.dat x.1).depth (max (Da.dat x.2).depth 0) + 1 ≤ _; have := Da.dp x.1; have := Da.dp x.2; omega,
  fun x => by show (noD (Da.dat x.1) && (noD (Da.dat x.2) && true)) = true; rw [Da.nd, Da.nd]; rfl,
  fun x y => by
    show (PyData.eqv (Da.dat x.1) (Da.dat y.1) && (PyData.eqv (Da.dat x.2) (Da.dat y.2) && true)) = _
    rw [Da.eq, Da.eq]; obtain ⟨a, b⟩ := x; obtain ⟨c, d⟩ := y
    by_cases h : a = c <;> by_cases h2 : b = d <;> simp [h, h2]⟩
noncomputable instance bP : Db (α × β) := ⟨fun _ => ⟨rfl, rfl, fun h => by cases h⟩⟩
noncomputable instance dP3 : Da (P3 α β γ) := ⟨fun x => .tuple [Da.dat x.a, Da.dat x.b, Da.dat x.c], max (Da.n α) (max (Da.n β) (Da.n γ)) + 1, fun o x => by
    show (T.dataA [en o x.a, en o x.b, en o x.c]).map _ = _; rw [dat_cons (Da.ok o x.a) (dat_cons (Da.ok o x.b) (dat_cons (Da.ok o x.c) dat_nil))]; rfl,
  fun x => by show ((Da.dat x.a).canLay0 && ((Da.dat x.b).canLay0 && ((Da.dat x.c).canLay0 && true))) = true; rw [Da.cl, Da.cl, Da.cl]; rfl,
  fun x => by show max (Da.dat x.a).depth (max (Da.dat x.b).depth (max (Da.dat x.c).depth 0)) + 1 ≤ _; have := Da.dp x.a; have := Da.dp x.b; have := Da.dp x.c; omega,
  fun x => by show (noD (Da.dat x.a) && (noD (Da.dat x.b) && (noD (Da.dat x.c) && true))) = true; rw [Da.nd, Da.nd, Da.nd]; rfl,
  fun x y => by
    show (PyData.eqv (Da.dat x.a) (Da.dat y.a) && (PyData.eqv (Da.dat x.b) (Da.dat y.b) && (PyData.eqv (Da.dat x.c) (Da.dat y.c) && true))) = _
    rw [Da.eq, Da.eq, Da.eq]; obtain ⟨a, b, c⟩ := x; obtain ⟨a', b', c'⟩ := y
    by_cases h : a = a' <;> by_cases h2 : b = b' <;> by_cases h3 : c = c' <;> simp [h, h2, h3]⟩
noncomputable instance bP3 : Db (P3 α β γ) := ⟨fun _ => ⟨rfl, rfl, fun h => by cases h⟩⟩
noncomputable instance dP4 : Da (P4 α β γ δ) := ⟨fun x => .tuple [Da.dat x.a, Da.dat x.b, Da.dat x.c, Da.dat x.d], max (Da.n α) (max (Da.n β) (max (Da.n γ) (Da.n δ))) + 1, fun o x => by
    show (T.dataA [en o x.a, en o x.b, en o x.c, en o x.d]).map _ = _; rw [dat_cons (Da.ok o x.a) (dat_cons (Da.ok o x.b) (dat_cons (Da.ok o x.c) (dat_cons (Da.ok o x.d) dat_nil)))]; rfl,
  fun x => by show ((Da.dat x.a).canLay0 && ((Da.dat x.b).canLay0 && ((Da.dat x.c).canLay0 && ((Da.dat x.d).canLay0 && true)))) = true; rw [Da.cl, Da.cl, Da.cl, Da.cl]; rfl,
  fun x => by show max (Da.dat x.a).depth (max (Da.dat x.b).depth (max (Da.dat x.c).depth (max (Da.dat x.d).depth 0))) + 1 ≤ _; have := Da.dp x.a; have := Da.dp x.b; have := Da.dp x.c; have := Da.dp x.d; omega,
  fun x => by show (noD (Da.dat x.a) && (noD (Da.dat x.b) && (noD (Da.dat x.c) && (noD (Da.dat x.d) && true)))) = true; rw [Da.nd, Da.nd, Da.nd, Da.nd]; rfl,
  fun x y => by
    show (PyData.eqv (Da.dat x.a) (Da.dat y.a) && (PyData.eqv (Da.dat x.b) (Da.dat y.b) && (PyData.eqv (Da.dat x.c) (Da.dat y.c) && (PyData.eqv (Da.dat x.d) (Da.dat y.d) && true)))) = _
    rw [Da.eq, Da.eq, Da.eq, Da.eq]; obtain ⟨a, b, c, d⟩ := x; obtain ⟨a', b', c', d'⟩ := y
    by_cases h : a = a' <;> by_cases h2 : b = b' <;> by_cases h3 : c = c' <;> by_cases h4 : d = d' <;> simp [h, h2, h3, h4]⟩
noncomputable instance bP4 : Db (P4 α β γ δ) := ⟨fun _ => ⟨rfl, rfl, fun h => by cases h⟩⟩
noncomputable instance dFz : Da (Fz α) := ⟨fun x => Da.dat x.x, Da.n α, fun o x => by show (en false x.x).data = _; exact Da.ok false x.x, fun _ => Da.cl _, fun _ => Da.dp _, fun _ => Da.nd _, fun x y => by
  rw [Da.eq]; obtain ⟨x⟩ := x; obtain ⟨y⟩ := y; by_cases h : x = y <;> simp [h]⟩
noncomputable instance bFz [Db α] : Db (Fz α) := ⟨fun x => by show PyData.eqv .none (Da.dat x.x) = false ∧ PyData.eqv (Da.dat x.x) .none = false ∧ Da.dat x.x ≠ .none; exact Db.nn x.x⟩
noncomputable instance dOp [Db α] : Da (Option α) := ⟨fun x => match x with | none => .none | some a => Da.dat a, Da.n α, fun o x => by
    cases x with
    | none => rfl
    | some a => exact Da.ok o a,
  fun x => by cases x with
    | none => rfl
    | some a => exact Da.cl a,
  fun x => by cases x with
    | none => exact Nat.zero_le _
    | some a => exact Da.dp a,
  fun x => by cases x with
    | none => rfl
    | some a => exact Da.nd a,
  fun x y => by cases x with
    | none => cases y with
      | none => rfl
      | some b => show PyData.eqv .none (Da.dat b) = _; rw [(Db.nn b).1]; simp
    | some a => cases y with
      | none => show PyData.eqv (Da.dat a) .none = _; rw [(Db.nn a).2.1]; simp
      | some b => show PyData.eqv (Da.dat a) (Da.dat b) = _; rw [Da.eq]; by_cases h : a = b <;> simp [h]⟩
theorem da_plt (o : Bool) (x : α) : PlT (Da.n α) (en o x) := ⟨_, Da.ok o x, Da.cl x, Da.dp x, Da.nd x⟩
theorem scal_e {a b : T} {d e : PyData} (h : eqB a b = some (PyData.eqv d e)) (h1 : a.data = some d) (h2 : b.data = some e) : scalB a b = some (PyData.eqv d e) := by
  unfold scalB
  split
  · cases h1; cases h2; rename_i i j; show _ = some (i == j); by_cases h : i = j <;> simp [h]
  · cases h1; cases h2; rename_i i j; show _ = some (tx i == tx j)
    congr 1
    by_cases h : i = j
    · subst h; simp
    · rw [decide_eq_false h]; symm; exact beq_eq_false_iff_ne.mpr fun z => h (tx_inj z)
  · cases h1; cases h2; rename_i i j; show _ = some (i == j); cases i <;> cases j <;> rfl
  · exact h
theorem q_eqD (x y : α) (h : Da.n α ≤ 64) : eqT (en o x) (en p y) = some (en true (decide (x = y))) := by
  unfold eqT
  rw [scal_e (eqB_e (da_plt o x) (da_plt p y) h h (Da.ok o x) (Da.ok p y)) (Da.ok o x) (Da.ok p y), Da.eq]; rfl
theorem q_neD (x y : α) (h : Da.n α ≤ 64) : neT (en o x) (en p y) = some (en true (!decide (x = y))) := by
  unfold neT
  rw [scal_e (eqB_e (da_plt o x) (da_plt p y) h h (Da.ok o x) (Da.ok p y)) (Da.ok o x) (Da.ok p y), Da.eq]; rfl
end
/-- in order -/
class Oa (α : Type) [Cd α] [DecidableEq α] [Da α] where
  lt : α → α → Bool
  ak : ∀ x y : α, alike (Da.dat x) (Da.dat y) = true
  l : ∀ x y : α, dataLt (Da.dat x) (Da.dat y) = lt x y
noncomputable def lexL {α : Type} [DecidableEq α] (lt : α → α → Bool) : List α → List α → Bool
  | [], [] => false
  | [], _ :: _ => true
  | _ :: _, [] => false
  | x :: xs, y :: ys => if x = y then lexL lt xs ys else lt x y
noncomputable instance : Oa Int := ⟨fun x y => decide (x < y), fun _ _ => rfl, fun x y => PySem.W.dataLt_int x y⟩
noncomputable instance oaTx : Oa Tx := ⟨fun x y => decide (nn x < nn y), fun _ _ => rfl, fun x y => by
  show dataLt (.str _) (.str _) = _
  exact PySem.W.dataLt_str _ _⟩
section
variable {α β γ : Type} [Cd α] [Cd β] [Cd γ] [DecidableEq α] [DecidableEq β] [DecidableEq γ] [Da α] [Da β] [Da γ] [Oa α] [Oa β] [Oa γ] {o p : Bool}
theorem akA : ∀ l m : List α, alikeAll (l.map Da.dat) (m.map Da.dat) = true
  | [], _ => by rw [List.map_nil, alikeAll]
  | _ :: _, [] => by rw [List.map_cons, List.map_nil, alikeAll]
  | x :: l, y :: m => by rw [List.map_cons, List.map_cons, alikeAll, Oa.ak, akA l m]; rfl
theorem lexA : ∀ l m : List α, PyProof.Rows.lexLt PyProof.Rows.itemOrd (keyToksAll (l.map Da.dat)) (keyToksAll (m.map Da.dat)) = lexL Oa.lt l m
  | [], [] => by rw [List.map_nil]; show PyProof.Rows.lexLt PyProof.Rows.itemOrd (keyToksAll []) (keyToksAll []) = false; decide
  | [], y :: m => by
    rw [List.map_nil, List.map_cons, keyToksAll, keyToksAll, lexL]
    exact (PySem.W.lex_atom (by simp) _ _).trans (by decide)
  | x :: l, [] => by
    rw [List.map_nil, List.map_cons, keyToksAll, keyToksAll, lexL]
    exact (PySem.W.lex_atom (by simp) _ _).trans (by decide)
  | x :: l, y :: m => by
    rw [List.map_cons, List.map_cons, lexL]
    have e := Da.eq x y
    by_cases h : x = y
    · rw [PySem.W.dataLt_all_yes (Oa.ak x y) (by rw [e, decide_eq_true h]), if_pos h, lexA l m]
    · rw [PySem.W.dataLt_all_no (Oa.ak x y) (by rw [e, decide_eq_false h]), if_neg h, Oa.l]
noncomputable instance oaL : Oa (List α) := ⟨lexL Oa.lt, fun l m => akA l m, fun l m => (PySem.W.dataLt_list _ _).trans (lexA l m)⟩
noncomputable instance oaV : Oa (Vt α) := ⟨fun l m => lexL Oa.lt l.l m.l, fun l m => akA l.l m.l, fun l m => (PySem.W.dataLt_tuple _ _).trans (lexA l.l m.l)⟩
noncomputable instance oaFz : Oa (Fz α) := ⟨fun l m => Oa.lt l.x m.x, fun l m => by show alike (Da.dat l.x) (Da.dat m.x) = true; exact Oa.ak _ _, fun l m => by show dataLt (Da.dat l.x) (Da.dat m.x) = _; exact Oa.l _ _⟩
noncomputable def lt3 (x y : P3 α β γ) : Bool := if x.a = y.a then (if x.b = y.b then Oa.lt x.c y.c else Oa.lt x.b y.b) else Oa.lt x.a y.a
noncomputable def lt2 (x y : α × β) : Bool := if x.1 = y.1 then Oa.lt x.2 y.2 else Oa.lt x.1 y.1
theorem lex_step (x y : α) (l m : List PyData) : PyProof.Rows.lexLt PyProof.Rows.itemOrd (keyToksAll (Da.dat x :: l)) (keyToksAll (Da.dat y :: m)) = if x = y then PyProof.Rows.lexLt PyProof.Rows.itemOrd (keyToksAll l) (keyToksAll m) else Oa.lt x y := by
  have e := Da.eq x y
  by_cases h : x = y
  · rw [PySem.W.dataLt_all_yes (Oa.ak x y) (by rw [e, decide_eq_true h]), if_pos h]
  · rw [PySem.W.dataLt_all_no (Oa.ak x y) (by rw [e, decide_eq_false h]), if_neg h, Oa.l]
end
section
variable {α β γ : Type} [Cd α] [Cd β] [Cd γ] [DecidableEq α] [DecidableEq β] [DecidableEq γ] [Da α] [Da β] [Da γ] [Oa α] [Oa β] [Oa γ] {o p : Bool}
class Ir (α : Type) [Cd α] [DecidableEq α] [Da α] [Oa α] : Prop where
  ir : ∀ x : α, Oa.lt x x = false
theorem lexL_ir [Ir α] : ∀ l : List α, lexL Oa.lt l l = false
  | [] => rfl
  | x :: l => by rw [lexL, if_pos rfl]; exact lexL_ir l
noncomputable instance : Ir Int := ⟨fun x => by show decide (x < x) = false; simp⟩
noncomputable instance irTx : Ir Tx := ⟨fun x => by show decide (nn x < nn x) = false; simp⟩
noncomputable instance irL [Ir α] : Ir (List α) := ⟨fun x => lexL_ir x⟩
noncomputable instance irV [Ir α] : Ir (Vt α) := ⟨fun x => lexL_ir x.l⟩
theorem lex_end : PyProof.Rows.lexLt PyProof.Rows.itemOrd (keyToksAll []) (keyToksAll []) = false := by decide
noncomputable instance oaP3 [Ir γ] : Oa (P3 α β γ) := ⟨lt3, fun x y => by
    show alikeAll [Da.dat x.a, Da.dat x.b, Da.dat x.c] [Da.dat y.a, Da.dat y.b, Da.dat y.c] = true
    rw [alikeAll, alikeAll, alikeAll, alikeAll, Oa.ak, Oa.ak, Oa.ak]; rfl, fun x y => by
    show dataLt (.tuple [Da.dat x.a, Da.dat x.b, Da.dat x.c]) (.tuple [Da.dat y.a, Da.dat y.b, Da.dat y.c]) = _
    rw [PySem.W.dataLt_tuple, lex_step, lex_step, lex_step, lex_end]; unfold lt3
    by_cases h : x.c = y.c
    · rw [if_pos h, h, Ir.ir]
    · rw [if_neg h]⟩
noncomputable instance oaP [Ir β] : Oa (α × β) := ⟨lt2, fun x y => by
    show alikeAll [Da.dat x.1, Da.dat x.2] [Da.dat y.1, Da.dat y.2] = true
    rw [alikeAll, alikeAll, alikeAll, Oa.ak, Oa.ak]; rfl, fun x y => by
    show dataLt (.tuple [Da.dat x.1, Da.dat x.2]) (.tuple [Da.dat y.1, Da.dat y.2]) = _
    rw [PySem.W.dataLt_tuple, lex_step, lex_step, lex_end]; unfold lt2
    by_cases h : x.2 = y.2
    · rw [if_pos h, h, Ir.ir]
    · rw [if_neg h]⟩
end
end En
set_option maxRecDepth 100000
set_option maxHeartbeats 1000000
namespace En
open PySem PySem.Spec PyProof.Rows L2 Gk
local macro_rules | `(tactic| walk_at "pm") => `(tactic| (simp only [List.perm_iff_count, List.count_append, List.count_cons, List.count_nil] at *; grind))
theorem execs_app' {M : Model} {A : Around} {env : PySem.Env} {E : Value → Shared → Prop} {Q : Flow → Shared → Prop} {b : List Stmt} {Γ : PySem.Ctx} (hΓ : Γ.In A) : ∀ {a : List Stmt} {s : Shared} {p : Pos},
    Sem.wp M Γ (execs a env) (fun f _ s' => match f with | .next => wpAny M A (execs b env) Q E s' | f => Q f s') (fun e _ s' => E e s') p s → Sem.wp M Γ (execs (a ++ b) env) (fun f _ s' => Q f s') (fun e _ s' => E e s') p s
  | [], s, p, h => (show wpAny M A (execs b env) Q E s from h) Γ p hΓ
  | st :: a, s, p, h => by
    rw [List.cons_append, execs_cons, Sem.wp_bind']
    rw [execs_cons, Sem.wp_bind'] at h
    refine Sem.wp_mono M Γ _ (fun f p' s' h' => ?_) (fun _ _ _ h' => h') _ _ h
    cases f with
    | next => exact execs_app' hΓ h'
    | _ => exact h'
theorem pss_app {X : Cx} {a b : List Stmt} {t u : TS} (h1 : PSs X a t) (h2 : PSs X b u) : PSs X (a ++ b) (tSeq t u) := by
  refine ⟨fun pins s σ H D I h => fun Γ p hΓ => execs_app' hΓ (thn (h1.run pins s σ H { D with nx := u D } I h) (fun f s1 q => ?_) Γ p hΓ)⟩
  cases f with
  | next =>
    obtain ⟨σ', H', I', q⟩ := q
    exact h2.run pins s1 σ' H' D I' q
  | ret v => exact q
  | brk => exact q
  | cont => exact q
/-- the names K stand while the body runs, and are taken back behind it; of the other names those of Jf stay, if nothing in them stood before -/
noncomputable def lendS (K Jf : List Nat) (body : Sm) : Sm := fun e => match takeS K e with
  | some (ts, e0) => match body (putS K (T.frzA ts) e0) with
    | .nxt e' => match takeS Jf e' with
      | some (os, _) => if T.freshA os = true then .nxt (putS Jf os (putS K ts (List.replicate e.length .unb))) else .bad
      | none => .bad
    | _ => .bad
  | none => .bad
section
variable {G : Ct} {F F' H H' : Hp} {L L' L1 L0 Lf Mc : List Cell} {W : WX} {J : List Nat} {σ σ' : Sg} {D : Ends} {m body : Sm} {env : Env}
theorem env_unb (tb : TbIn G F) : ∀ (σ : Sg), EnvR G F [] σ (List.replicate σ.length .unb)
  | [] => .nil tb
  | o :: σ => .cons (.unb o) (env_unb tb σ) (by simp)
theorem rd_lend {K Jf : List Nat} {H : Hp} {D : Ends} (q : rdS G W J (seqS (lendS K Jf body) m) D σ H) : tSeq (rdS G W (K ++ J) body) (rdS G W J m) D σ H := by
  obtain ⟨F, L, Lf, env, s, er, p⟩ := q
  unfold seqS lendS at p
  cases e1 : takeS K env with
  | none => rw [e1] at p; exact p.elim
  | some pr =>
    obtain ⟨ts, e0⟩ := pr
    rw [e1] at p
    dsimp only at p
    obtain ⟨LK, L0, ws, q1, er0, tr, hw⟩ := er.take e1
    have s1 : Sx H (LK ++ (L0 ++ Lf)) F := s.perm (by walk_at "pm")
    have sF := s1.addC_same
    have trf : TrA G.K G.cn (addC F LK) [] ws (T.frzA ts) := (tr.mono sF).frz fun c hc => s1.addC_mem hc
    obtain ⟨L', D1, q2, er1⟩ := (er0.mono sF).put trf hw
    refine ⟨addC F LK, L', Lf, _, (s1.stand.perm (M := D1 ++ (L' ++ Lf)) (by walk_at "pm")).right, er1, ?_⟩
    cases e2 : body (putS K (T.frzA ts) e0) with
    | nxt e' =>
      rw [e2] at p
      dsimp only at p
      intro σ' H' F' La s' sm er' k
      cases e3 : takeS Jf e' with
      | none => rw [e3] at p; exact p.elim
      | some pr2 =>
        obtain ⟨os, e4⟩ := pr2
        rw [e3] at p
        dsimp only at p
        by_cases hf : T.freshA os = true
        · rw [if_pos hf] at p
          obtain ⟨b1, b2, b3⟩ := s'.back tr.mt s1 sm
          obtain ⟨LJ, L2, wj, q3, er2, to, hj⟩ := er'.take e3
          have ln : env.length = σ'.length := by rw [k.1, er.len]
          have hw' : K.map (fun j => σ'[j]?) = ws.map (fun v => some (some v)) := by
            rw [← hw]; exact List.map_congr_left fun j hj => k.2 j (List.mem_append_left _ hj)
          have base : EnvR G (less F' LK) [] σ' (List.replicate env.length .unb) := by rw [ln]; exact env_unb (er.tb.mono b2) σ'
          obtain ⟨L3, D3, q4, er3⟩ := base.put (tr.mono b2) hw'
          obtain ⟨L4, D4, q5, er4⟩ := er3.put (to.less tr.mt b3 hf) hj
          exact ⟨less F' LK, L4, Lf, _, (b1.perm (M := (L2 ++ D3 ++ D4) ++ (L4 ++ Lf)) (by walk_at "pm")).right, er4, PostS.shift b2 ⟨k.1, fun j hj => k.2 j (List.mem_append_right _ hj)⟩ p⟩
        · rw [if_neg hf] at p; exact p.elim
    | ret t e' => rw [e2] at p; exact p.elim
    | brk e' => rw [e2] at p; exact p.elim
    | cnt e' => rw [e2] at p; exact p.elim
    | exc C x e' => rw [e2] at p; exact p.elim
    | bad => rw [e2] at p; exact p.elim
theorem dss_lend {X : Cx} {l : List Stmt} (n : Nat) (K Jf : List Nat) (h1 : DSs G W (K ++ J) X (l.take n) body) (h2 : DSs G W J X (l.drop n) m) : DSs G W J X l (seqS (lendS K Jf body) m) := by
  have z := (pss_app h1 h2).imp fun D σ H q => rd_lend (K := K) (Jf := Jf) q
  rw [List.take_append_drop] at z
  exact z
end
inductive Pth (K : PySem.W.Frag) (H : Hp) : List Nat → V → V → Prop
  | nil (v : V) : Pth K H [] v v
  | cons {k : Nat} {ks : List Nat} {a : Addr} {ys : List V} {w v : V} : (H a = some (.lst ys) ∨ SqT K H a ys) → ys[k]? = some w → Pth K H ks w v → Pth K H (k :: ks) (.ref a) v
section
variable {X : Cx} {i k : Nat} {ks : List Nat}
theorem Pth.snoc {K : PySem.W.Frag} {H : Hp} {a : Addr} {ys : List V} {w : V} : ∀ {ks : List Nat} {v0 : V}, Pth K H (ks ++ [k]) v0 w → ∃ a ys, Pth K H ks v0 (.ref a) ∧ (H a = some (.lst ys) ∨ SqT K H a ys) ∧ ys[k]? = some w
  | [], v0, h => by
    cases h with
    | cons e1 e2 e3 => cases e3; exact ⟨_, _, .nil _, e1, e2⟩
  | j :: ks, v0, h => by
    cases h with
    | cons e1 e2 e3 =>
      obtain ⟨a, ys, h1, h2, h3⟩ := Pth.snoc (a := a) (ys := ys) e3
      exact ⟨a, ys, .cons e1 e2 h1, h2, h3⟩
end
end En
set_option maxRecDepth 100000
set_option maxHeartbeats 1000000
namespace En
open PySem PySem.Spec PyProof.Rows L2 Gk
local macro_rules | `(tactic| walk_at "pm") => `(tactic| (simp only [List.perm_iff_count, List.count_append, List.count_cons, List.count_nil] at *; grind))
end En
set_option maxRecDepth 100000
set_option maxHeartbeats 1000000
namespace En
open PySem PySem.Spec PyProof.Rows L2 Gk
open Cd (en)
structure H2 (α β : Type) where
  a : α
  b : β
deriving DecidableEq
structure H3 (α β γ : Type) where
  a : α
  b : β
  c : γ
deriving DecidableEq
structure H4 (α β γ δ : Type) where
  a : α
  b : β
  c : γ
  d : δ
deriving DecidableEq
structure H5 (α β γ δ ε : Type) where
  a : α
  b : β
  c : γ
  d : δ
  e : ε
deriving DecidableEq
section
variable {α β γ δ ε : Type} [Cd α] [Cd β] [Cd γ] [Cd δ] [Cd ε] {o p : Bool}
noncomputable instance iH2 : Cd (H2 α β) := ⟨fun o x => .lst o [en o x.a, en o x.b], fun _ _ => rfl, fun o x => by rw [frz_lst]; simp only [List.map_cons, List.map_nil, Cd.frz], fun _ _ => rfl, fun _ _ => rfl⟩
noncomputable instance iH3 : Cd (H3 α β γ) := ⟨fun o x => .lst o [en o x.a, en o x.b, en o x.c], fun _ _ => rfl, fun o x => by rw [frz_lst]; simp only [List.map_cons, List.map_nil, Cd.frz], fun _ _ => rfl, fun _ _ => rfl⟩
noncomputable instance iH4 : Cd (H4 α β γ δ) := ⟨fun o x => .lst o [en o x.a, en o x.b, en o x.c, en o x.d], fun _ _ => rfl, fun o x => by rw [frz_lst]; simp only [List.map_cons, List.map_nil, Cd.frz], fun _ _ => rfl, fun _ _ => rfl⟩
noncomputable instance iH5 : Cd (H5 α β γ δ ε) := ⟨fun o x => .lst o [en o x.a, en o x.b, en o x.c, en o x.d, en o x.e], fun _ _ => rfl, fun o x => by rw [frz_lst]; simp only [List.map_cons, List.map_nil, Cd.frz], fun _ _ => rfl, fun _ _ => rfl⟩
noncomputable instance oH2 [Ow α] [Ow β] : Ow (H2 α β) := ⟨fun l => by show (T.lst true _).fresh = true; rw [fr_lst]; simp only [List.all_cons, List.all_nil, Ow.ow]; rfl⟩
noncomputable instance oH3 [Ow α] [Ow β] [Ow γ] : Ow (H3 α β γ) := ⟨fun l => by show (T.lst true _).fresh = true; rw [fr_lst]; simp only [List.all_cons, List.all_nil, Ow.ow]; rfl⟩
noncomputable instance oH4 [Ow α] [Ow β] [Ow γ] [Ow δ] : Ow (H4 α β γ δ) := ⟨fun l => by show (T.lst true _).fresh = true; rw [fr_lst]; simp only [List.all_cons, List.all_nil, Ow.ow]; rfl⟩
noncomputable instance oH5 [Ow α] [Ow β] [Ow γ] [Ow δ] [Ow ε] : Ow (H5 α β γ δ ε) := ⟨fun l => by show (T.lst true _).fresh = true; rw [fr_lst]; simp only [List.all_cons, List.all_nil, Ow.ow]; rfl⟩
noncomputable instance : Nn (H2 α β) := ⟨fun _ _ => rfl⟩
noncomputable instance : Nn (H3 α β γ) := ⟨fun _ _ => rfl⟩
noncomputable instance : Nn (H4 α β γ δ) := ⟨fun _ _ => rfl⟩
noncomputable instance : Nn (H5 α β γ δ ε) := ⟨fun _ _ => rfl⟩
noncomputable instance : Nf (H2 α β) := ⟨trivial⟩
noncomputable instance : Nf (H3 α β γ) := ⟨trivial⟩
noncomputable instance : Nf (H4 α β γ δ) := ⟨trivial⟩
noncomputable instance : Nf (H5 α β γ δ ε) := ⟨trivial⟩
theorem q_ixh20 (x : H2 α β) : ixT (en o x) (en p (0 : Int)) = some (en o x.a) := rfl
theorem q_ixh21 (x : H2 α β) : ixT (en o x) (en p (1 : Int)) = some (en o x.b) := rfl
theorem q_ixh30 (x : H3 α β γ) : ixT (en o x) (en p (0 : Int)) = some (en o x.a) := rfl
theorem q_ixh31 (x : H3 α β γ) : ixT (en o x) (en p (1 : Int)) = some (en o x.b) := rfl
theorem q_ixh32 (x : H3 α β γ) : ixT (en o x) (en p (2 : Int)) = some (en o x.c) := rfl
theorem q_ixh40 (x : H4 α β γ δ) : ixT (en o x) (en p (0 : Int)) = some (en o x.a) := rfl
theorem q_ixh41 (x : H4 α β γ δ) : ixT (en o x) (en p (1 : Int)) = some (en o x.b) := rfl
theorem q_ixh42 (x : H4 α β γ δ) : ixT (en o x) (en p (2 : Int)) = some (en o x.c) := rfl
theorem q_ixh43 (x : H4 α β γ δ) : ixT (en o x) (en p (3 : Int)) = some (en o x.d) := rfl
theorem q_ixh50 (x : H5 α β γ δ ε) : ixT (en o x) (en p (0 : Int)) = some (en o x.a) := rfl
theorem q_ixh51 (x : H5 α β γ δ ε) : ixT (en o x) (en p (1 : Int)) = some (en o x.b) := rfl
theorem q_ixh52 (x : H5 α β γ δ ε) : ixT (en o x) (en p (2 : Int)) = some (en o x.c) := rfl
theorem q_ixh53 (x : H5 α β γ δ ε) : ixT (en o x) (en p (3 : Int)) = some (en o x.d) := rfl
theorem q_ixh54 (x : H5 α β γ δ ε) : ixT (en o x) (en p (4 : Int)) = some (en o x.e) := rfl
structure Rw where
  l : List Nat
deriving DecidableEq
noncomputable instance iRw : Cd Rw := ⟨fun _ x => .str x.l, fun _ _ => rfl, fun _ _ => rfl, fun _ _ => rfl, fun _ _ => rfl⟩
noncomputable instance : Fq Rw := ⟨fun _ _ => rfl⟩
noncomputable instance : Ow Rw := ⟨fun _ => rfl⟩
noncomputable instance : Nn Rw := ⟨fun _ _ => rfl⟩
noncomputable def rpO (x : α) : Option Rw := match reprT (en false x) with
  | some (.str l) => some ⟨l⟩
  | _ => none
theorem repr_frz (t : T) : reprT t = reprT t.frz := by unfold reprT; rw [data_frz]
theorem repr_str {t u : T} (h : reprT t = some u) : ∃ l, u = .str l := by
  unfold reprT at h
  split at h
  · split at h
    · cases h; exact ⟨_, rfl⟩
    · cases h
  · cases h
theorem q_repr (x : α) : reprT (en o x) = (rpO x).map (en true) := by
  rw [repr_frz, Cd.frz]
  unfold rpO
  cases h : reprT (en false x) with
  | none => rfl
  | some u => obtain ⟨l, rfl⟩ := repr_str h; rfl
theorem q_eqRw (i j : Rw) : eqT (en o i) (en p j) = some (en true (decide (i = j))) := by
  show some (T.bl (decide (i.l = j.l))) = some (T.bl _)
  congr 2; apply decide_eq_decide.mpr
  exact ⟨fun h => by cases i; cases j; cases h; rfl, fun h => by rw [h]⟩
theorem q_neRw (i j : Rw) : neT (en o i) (en p j) = some (en true (!decide (i = j))) := by
  show some (T.bl (!decide (i.l = j.l))) = some (T.bl _)
  congr 3; apply decide_eq_decide.mpr
  exact ⟨fun h => by cases i; cases j; cases h; rfl, fun h => by rw [h]⟩
theorem lend_e {K Jf : List Nat} {body : Sm} {e e0 e' e2 : Env} {ts os : List T} (h1 : takeS K e = some (ts, e0)) (h2 : body (putS K (T.frzA ts) e0) = .nxt e') (h3 : takeS Jf e' = some (os, e2)) (h4 : T.freshA os = true) :
    lendS K Jf body e = .nxt (putS Jf os (putS K ts (List.replicate e.length .unb))) := by
  unfold lendS
  rw [h1]; dsimp only; rw [h2]; dsimp only; rw [h3]; dsimp only; rw [if_pos h4]
noncomputable def wipe (x : Lv α) : Lv α := if x.t = true then x else ⟨false, []⟩
end
end En
namespace En
open PySem PySem.Spec PyProof.Rows L2 Gk
open Cd (en)
theorem q_tupLv {α : Type} [Cd α] [Fq α] {o : Bool} (x : Lv α) : tupleT (en o x) = some (en true (Vt.mk x.l)) := by
  obtain ⟨t, l⟩ := x
  cases t
  · show some (T.tup (l.map (en o))) = some (T.tup _); rw [fq_map]
  · show some (T.tup (l.map (en o))) = some (T.tup _); rw [fq_map]
end En
namespace En
open PySem PySem.Spec PyProof.Rows L2 Gk
open Cd (en)
end En
namespace En
theorem frzA_cc (t : T) (ts : List T) : T.frzA (t :: ts) = t.frz :: T.frzA ts := rfl
theorem frzA_nn : T.frzA [] = [] := rfl
end En
set_option maxRecDepth 100000
set_option maxHeartbeats 2000000
namespace PySem
open PySem.Spec PyProof.Rows
end PySem
set_option maxRecDepth 100000
set_option maxHeartbeats 4000000
namespace PySem
open PySem.Spec PyProof.Rows
end PySem
namespace L2
open PySem PySem.Spec PyProof.Rows
end L2
set_option maxRecDepth 100000
set_option maxHeartbeats 1000000
namespace En
open PySem PySem.Spec PyProof.Rows L2 Gk
local macro_rules | `(tactic| walk_at "pm") => `(tactic| (simp only [List.perm_iff_count, List.count_append, List.count_cons, List.count_nil] at *; grind))
/-- two heaps that part at dicts alone, and there by a lock -/
noncomputable def Lk (F F' : Hp) : Prop := ∀ a, F' a = F a ∨ ∃ kvs, Rd F a (.dK kvs) ∧ Rd F' a (.dK kvs)
section
variable {K : PySem.W.Frag} {cn : Str → Addr} {F F' H : Hp} {L : List Cell} {a d : Addr}
theorem Rd.inj {kvs kvs' : List (Key × V)} (h : Rd F a (.dK kvs)) (h' : Rd F a (.dK kvs')) : kvs = kvs' := by
  rcases h with h | ⟨o, h⟩ <;> rcases h' with h' | ⟨o', h'⟩ <;> (rw [h] at h'; first | (cases h'; rfl) | (cases h'))
theorem Lk.ne {u : HO} (l : Lk F F') (h : F a = some u) (n : ∀ kvs, u ≠ .dK kvs) (n2 : ∀ o kvs, u ≠ .frz o (.dK kvs)) : F' a = some u := by
  rcases l a with e | ⟨kvs, e, _⟩
  · rw [e]; exact h
  · rcases e with e | ⟨o, e⟩
    · rw [h] at e; cases e; exact absurd rfl (n kvs)
    · rw [h] at e; cases e; exact absurd rfl (n2 o kvs)
end
noncomputable def noXT : Rt → Rt
  | .exc _ _ _ => .bad
  | .brk _ => .bad
  | .cnt _ => .bad
  | r => r
noncomputable def noXS (m : Sm) : Sm := fun e => noXT (m e)
section
open Cd (en)
variable {α β κ : Type}
theorem noXS_e (m : Sm) (e : Env) : noXS m e = noXT (m e) := rfl
theorem noXT_n (e : Env) : noXT (.nxt e) = .nxt e := rfl
theorem noXT_r (t : T) (e : Env) : noXT (.ret t e) = .ret t e := rfl
class Ke (κ : Type) [Kc κ] [Cd κ] : Prop where
  ke : ∀ o (k : κ), kyT (Kc.ky k) = en o k
noncomputable instance : Ke Int := ⟨fun _ _ => rfl⟩
noncomputable instance keTx : Ke Tx := ⟨fun _ _ => rfl⟩
theorem noXT_exR {S E : Type} (enc : S → Env) (t : E → T) (f : E → Env) (r : S ⊕ E) : noXT (exR enc (fun e => .ret (t e) (f e)) r) = exR enc (fun e => .ret (t e) (f e)) r := by cases r <;> rfl
theorem q_listD [Kc κ] [Cd κ] [Ke κ] [Fq κ] [Cd α] {o : Bool} (x : Dc κ α) : listT (en o x) = some (en true (x.l.map (·.1))) := by
  show some (T.lst true ((x.l.map fun p => Kc.ky p.1).map kyT)) = some (T.lst true _)
  rw [List.map_map, List.map_map]
  congr 2
  apply List.map_congr_left; intro p _; exact Ke.ke true p.1
end
end En
set_option maxRecDepth 100000
set_option maxHeartbeats 1000000
namespace En
open PySem PySem.Spec PyProof.Rows L2 Gk
local macro_rules | `(tactic| walk_at "pm") => `(tactic| (simp only [List.perm_iff_count, List.count_append, List.count_cons, List.count_nil] at *; grind))
noncomputable def mergeT (a : List Ky × List T) (ps : List (Ky × T)) : List Ky × List T := ps.foldl (fun a p => putK2 p.1 p.2 a.1 a.2) a
section
variable {G : Ct}
theorem still_nil {K : PySem.W.Frag} {cn : Str → Addr} {F : Hp} : ∀ {L : List Cell} {vs : List V} {ts : List T}, TrA K cn F L vs ts → T.stillA ts = true → L = []
  | _, _, _, .nil, _ => rfl
  | _, _, _, .cons a b p, h => by
    rw [T.stillA, Bool.and_eq_true] at h
    have h1 := frz_nil a (still_frz _ h.1)
    have h2 := still_nil b h.2
    subst h1 h2
    exact List.perm_nil.mp p
theorem merge_ok {F : Hp} : ∀ {ps : List (Ky × T)} {kvs acc : List (Key × V)} {a : List Ky × List T}, kvs.map (·.1) = ps.map (fun p => kyK p.1) → TrA G.K G.cn F [] (kvs.map (·.2)) (ps.map (·.2)) → acc.map (·.1) = a.1.map kyK → TrA G.K G.cn F [] (acc.map (·.2)) a.2 →
    (mergeK acc kvs).map (·.1) = (mergeT a ps).1.map kyK ∧ TrA G.K G.cn F [] ((mergeK acc kvs).map (·.2)) (mergeT a ps).2
  | [], [], acc, a, _, _, h1, h2 => ⟨h1, h2⟩
  | [], _ :: _, _, _, h, _, _, _ => by simp at h
  | _ :: _, [], _, _, h, _, _, _ => by simp at h
  | p :: ps, kv :: kvs, acc, a, h, ht, h1, h2 => by
    simp only [List.map_cons, List.cons.injEq] at h
    rw [List.map_cons, List.map_cons] at ht
    cases ht with
    | @cons _ _ _ _ _ L1 L2 hv hr pp =>
      have hL1 : L1 = [] := (List.append_eq_nil_iff.mp (List.nil_perm.mp pp)).1
      have hL2 : L2 = [] := (List.append_eq_nil_iff.mp (List.nil_perm.mp pp)).2
      subst hL1 hL2
      obtain ⟨g1, L', D, q, g2⟩ := putK_ok (k := p.1) hv h1 h2
      have : L' = [] := (List.append_eq_nil_iff.mp (List.nil_perm.mp q)).1
      subst this
      rw [← h.1] at g1 g2
      show (mergeK (putK acc kv.1 kv.2) kvs).map (·.1) = (mergeT (putK2 p.1 p.2 a.1 a.2) ps).1.map kyK ∧ TrA G.K G.cn F [] ((mergeK (putK acc kv.1 kv.2) kvs).map (·.2)) (mergeT (putK2 p.1 p.2 a.1 a.2) ps).2
      exact merge_ok h.2 hr g1 g2
end
noncomputable def tupP : PyData → Bool
  | .tuple (_ :: _) => true
  | _ => false
noncomputable def othP : PyData → Bool
  | .none => false
  | .tuple _ => false
  | _ => true
end En
namespace En
open PySem PySem.Spec PyProof.Rows L2 Gk
end En
set_option maxRecDepth 100000
set_option maxHeartbeats 1000000
namespace En
open PySem PySem.Spec PyProof.Rows L2 Gk
local macro_rules | `(tactic| walk_at "pm") => `(tactic| (simp only [List.perm_iff_count, List.count_append, List.count_cons, List.count_nil] at *; grind))
end En
set_option maxRecDepth 100000
set_option maxHeartbeats 1000000
namespace En
open PySem PySem.Spec PyProof.Rows L2 Gk
open Cd (en)
noncomputable def putL {κ α : Type} [DecidableEq κ] (l : List (κ × α)) (k : κ) (x : α) : List (κ × α) := if k ∈ l.map (·.1) then l.map (fun p => if p.1 = k then (p.1, x) else p) else l ++ [(k, x)]
noncomputable def mgL {κ α : Type} [DecidableEq κ] (l : List (κ × α)) : List (κ × α) := l.foldl (fun d p => putL d p.1 p.2) []
noncomputable def mgD {κ α : Type} [DecidableEq κ] (l : List (κ × α)) : Dc κ α := ⟨mgL l⟩
section
variable {α β γ δ κ : Type} [Cd α] [Cd β] {o p : Bool}
variable [Cd κ] [Kc κ] [DecidableEq κ]
theorem zip_set' (l : List (κ × α)) (k : κ) (x : α) : List.zipWith (fun c t => if c = Kc.ky k then en false x else t) (l.map fun p => Kc.ky p.1) (l.map fun p => en false p.2) = (l.map (fun p => if p.1 = k then (p.1, x) else p)).map fun p => en false p.2 := by
  induction l with
  | nil => rfl
  | cons p l ih =>
    rw [List.map_cons, List.map_cons, List.zipWith_cons_cons, ih, List.map_cons, List.map_cons]
    by_cases h : p.1 = k
    · simp [h]
    · have : ¬ Kc.ky p.1 = Kc.ky k := fun e => h (Kc.inj _ _ e)
      simp [h, this]
theorem merge_map (l : List (κ × α)) : ∀ d : List (κ × α), mergeT (d.map (fun p => Kc.ky p.1), d.map (fun p => en false p.2)) (l.map fun p => (Kc.ky p.1, en false p.2)) = ((l.foldl (fun d p => putL d p.1 p.2) d).map (fun p => Kc.ky p.1), (l.foldl (fun d p => putL d p.1 p.2) d).map (fun p => en false p.2)) := by
  induction l with
  | nil => intro d; rfl
  | cons p l ih =>
    intro d
    rw [List.map_cons, List.foldl_cons, ← ih]
    show mergeT (putK2 (Kc.ky p.1) (en false p.2) _ _) _ = _
    congr 1
    unfold putK2 putL
    rw [any_ky]
    by_cases h : p.1 ∈ d.map (·.1)
    · rw [if_pos (decide_eq_true h), if_pos h, zip_set', keys_set]
    · rw [if_neg (by simpa using h), if_neg h, List.map_append, List.map_append]; rfl
end
class So (α : Type) [Cd α] [DecidableEq α] [Da α] : Prop where
  so : (∀ x : α, tupP (Da.dat x) = true) ∨ (∀ x : α, othP (Da.dat x) = true)
noncomputable instance : So Int := ⟨.inr fun _ => rfl⟩
noncomputable instance : So Bool := ⟨.inr fun _ => rfl⟩
noncomputable instance soTx : So Tx := ⟨.inr fun _ => rfl⟩
section
variable {α β γ δ : Type} [Cd α] [Cd β] [Cd γ] [Cd δ] [DecidableEq α] [DecidableEq β] [DecidableEq γ] [DecidableEq δ] [Da α] [Da β] [Da γ] [Da δ] {o p : Bool}
noncomputable instance soL : So (List α) := ⟨.inr fun _ => rfl⟩
noncomputable instance soP : So (α × β) := ⟨.inl fun _ => rfl⟩
noncomputable instance soP3 : So (P3 α β γ) := ⟨.inl fun _ => rfl⟩
noncomputable instance soP4 : So (P4 α β γ δ) := ⟨.inl fun _ => rfl⟩
noncomputable instance soFz [So α] : So (Fz α) := ⟨(So.so (α := α)).elim (fun h => .inl fun x => h x.x) fun h => .inr fun x => h x.x⟩
end
end En
set_option maxRecDepth 100000
set_option maxHeartbeats 1000000
namespace En
open PySem PySem.Spec PyProof.Rows L2 Gk
end En
set_option maxRecDepth 100000
set_option maxHeartbeats 1000000
namespace En
open PySem PySem.Spec PyProof.Rows L2 Gk
local macro_rules | `(tactic| walk_at "pm") => `(tactic| (simp only [List.perm_iff_count, List.count_append, List.count_cons, List.count_nil] at *; grind))
end En
set_option maxRecDepth 100000
set_option maxHeartbeats 1000000
namespace En
open PySem PySem.Spec PyProof.Rows L2 Gk
open Cd (en)
section
variable {α β γ δ ε κ : Type} [Cd α] [Cd β] [Cd γ] [Cd δ] [Cd ε] {o p : Bool}
theorem q_lenP4 (x : P4 α β γ δ) : lenT (en o x) = some (en true (4 : Int)) := rfl
theorem q_lenP5 (x : P5 α β γ δ ε) : lenT (en o x) = some (en true (5 : Int)) := rfl
theorem q_lenP1 (x : P1 α) : lenT (en o x) = some (en true (1 : Int)) := rfl
theorem q_lenH2 (x : H2 α β) : lenT (en o x) = some (en true (2 : Int)) := rfl
theorem q_lenH3 (x : H3 α β γ) : lenT (en o x) = some (en true (3 : Int)) := rfl
theorem q_lenH4 (x : H4 α β γ δ) : lenT (en o x) = some (en true (4 : Int)) := rfl
theorem q_setDZ [Cd κ] [Kc κ] [DecidableEq κ] [Kk κ] (d : Dc κ (Fz α)) (k : κ) (x : α) : setF [en true d, en p k, en o x] = frA (dsO d k (Fz.mk x)) := by
  have h : setF [en true d, en p k, en true (Fz.mk x)] = frA (dsO d k (Fz.mk x)) := q_setD d k (Fz.mk x)
  rw [← h]
  show (match keyT (en p k).un with | some k => _ | none => _) = (match keyT (en p k).un with | some k => _ | none => _)
  rw [show (en o x : T).frz = (en true (Fz.mk x) : T).frz by rw [Cd.frz, Cd.frz]; rfl]
end
end En
set_option maxRecDepth 100000
set_option maxHeartbeats 1000000
namespace En
open PySem PySem.Spec PyProof.Rows L2 Gk
local macro_rules | `(tactic| walk_at "pm") => `(tactic| (simp only [List.perm_iff_count, List.count_append, List.count_cons, List.count_nil] at *; grind))
end En
set_option maxRecDepth 100000
set_option maxHeartbeats 1000000
namespace PySem.W
open PySem PySem.Calls PyProof.Rows
end PySem.W
set_option maxRecDepth 100000
set_option maxHeartbeats 1000000
namespace En
open PySem PySem.Spec PyProof.Rows L2 Gk
local macro_rules | `(tactic| walk_at "pm") => `(tactic| (simp only [List.perm_iff_count, List.count_append, List.count_cons, List.count_nil] at *; grind))
section
variable {X : Cx} {pins : List (Addr × Obj)} {σ : L2.St} {H H' : Hp} {s : Shared} {b : Addr}
theorem FpOk.next (f : FpOk X pins H b) (h : H' b = none) : FpOk X pins H' b := ⟨h, f.2⟩
end
end En
set_option maxRecDepth 100000
set_option maxHeartbeats 1000000
namespace En
open PySem PySem.Spec PyProof.Rows L2 Gk
open Cd (en)
local macro_rules | `(tactic| walk_at "pm") => `(tactic| (simp only [List.perm_iff_count, List.count_append, List.count_cons, List.count_nil] at *; grind))
end En
namespace En
open PySem PySem.Spec PyProof.Rows L2 Gk
open Cd (en)
local macro_rules | `(tactic| walk_at "pm") => `(tactic| (simp only [List.perm_iff_count, List.count_append, List.count_cons, List.count_nil] at *; grind))
end En
namespace En
open PySem PySem.Spec PyProof.Rows L2 Gk
open Cd (en)
end En
set_option maxRecDepth 100000
set_option maxHeartbeats 1000000
namespace En
open PySem PySem.Spec PyProof.Rows L2 Gk
noncomputable def eqL (f : T → T → Option Bool) : List T → List T → Option Bool
  | [], [] => some true
  | a :: as, b :: bs => (f a b).bind fun x => (eqL f as bs).map fun y => x && y
  | _, _ => none
noncomputable def eqK (f : T → T → Option Bool) (ls : List Ky) (us : List T) : List Ky → List T → Option Bool
  | [], [] => some true
  | k :: ks, t :: ts => match lookK k ls us with
    | none => (eqK f ls us ks ts).map fun _ => false
    | some u => (f t u).bind fun x => (eqK f ls us ks ts).map fun y => x && y
  | _, _ => none
noncomputable def eqd : Nat → T → T → Option Bool
  | 0, _, _ => none
  | n + 1, a, b => match scalB a b with
    | some k => some k
    | none => match a, b with
      | .lst _ ts, .lst _ us => if ts.length = us.length then eqL (eqd n) ts us else some false
      | .dct _ ks ts, .dct _ ls us => if ks.length = ls.length then eqK (eqd n) ls us ks ts else some false
      | _, _ => none
end En
set_option maxRecDepth 100000
set_option maxHeartbeats 1000000
namespace En
open PySem PySem.Spec PyProof.Rows L2 Gk
section
variable {X : Cx} {pins : List (Addr × Obj)} {σ : L2.St} {H F : Hp} {s : Shared} {cn : Str → Addr}
theorem nobyt {K : PySem.W.Frag} {F : Hp} : ∀ {t : T} {L : List Cell} {x : V}, Tr K cn F L x t → ∀ b, x ≠ .byt b
  | .atv _ _, _, _, h, b => by
    cases h with
    | atv h p => exact nobyt h b
  | .unb, _, _, h, _ => by cases h
  | .exn _ _, _, _, h, _ => by cases h
  | .non, _, _, h, _ => by cases h; exact nofun
  | .bl _, _, _, h, _ => by cases h; exact nofun
  | .int _, _, _, h, _ => by cases h; exact nofun
  | .str _, _, _, h, _ => by cases h; exact nofun
  | .lst _ _, _, _, h, _ => by cases h <;> exact nofun
  | .tup _, _, _, h, _ => by cases h; exact nofun
  | .dct _ _ _, _, _, h, _ => by cases h <;> exact nofun
  | .ins _ _ _ _, _, _, h, _ => by cases h <;> exact nofun
  | .sq _, _, _, h, _ => by cases h; exact nofun
  | .ty _, _, _, h, _ => by cases h; exact nofun
  | .cls _, _, _, h, _ => by cases h; exact nofun
  | .ptr _ _, _, _, h, b => by cases h with | ptr k n => exact n b
end
end En
set_option maxRecDepth 100000
set_option maxHeartbeats 1000000
namespace PySem.W
open PySem PySem.Calls PyProof.Rows PyProof.V PySem.Spec
open MeetsSeq MeetsSeq2 MeetsSeq3 SeqRoads2
end PySem.W
namespace En
open PySem PySem.Spec PyProof.Rows L2 Gk
theorem hu128_of {k : Nat} {A : Around} (r : Room k A) : A.units + 128 < cLine := by have := r.un; omega
end En
set_option maxRecDepth 100000
set_option maxHeartbeats 1000000
namespace En
open PySem PySem.Spec PyProof.Rows L2 Gk
local macro_rules | `(tactic| walk_at "pm") => `(tactic| (simp only [List.perm_iff_count, List.count_append, List.count_cons, List.count_nil] at *; grind))
noncomputable def flatP : List (V × V) → List V
  | [] => []
  | p :: r => p.1 :: p.2 :: flatP r
theorem rb_assoc {α β γ : Type} (m : M α) (f : α → M β) (g : β → M γ) : rb (rb m f) g = rb m fun x => rb (f x) g := by
  funext e
  unfold rb
  cases m e <;> rfl
section
variable {G : Ct} {W : WX} {X : Cx}
structure DD (G : Ct) (W : WX) (X : Cx) (pos : Pos) (keys : List (Option Expr)) (values : List Expr) (os : List Opd) : Prop where
  ex : ∃ trs, PPs X pos keys values trs ∧ ∀ (σ : Sg) (H : Hp) (Q : List (V × V) → Hp → Prop), rdG G (RLi G (os.map Opd.isIo)) W (evA os) σ H (fun vs H' => ∀ ps, flatP ps = vs → Q ps H') → tPairs trs σ H Q
theorem dd_nil {pos : Pos} : DD G W X pos [] [] [] := ⟨[], pps_nil, fun σ H Q q => by
  have : ∀ ps, flatP ps = [] → Q ps H := rd_rp (a := ([] : List AT)) (b := ([] : List V)) q fun F => ⟨.nil, rfl⟩
  exact this [] rfl⟩
theorem dd_cons {pos : Pos} {k v : Expr} {ks : List (Option Expr)} {vs : List Expr} {o1 o2 : Opd} {os : List Opd} (hk : DO G W X k o1) (hv : DO G W X v o2) (hr : DD G W X pos ks vs os) : DD G W X pos (some k :: ks) (v :: vs) (o1 :: o2 :: os) := by
  obtain ⟨trs, h1, h2⟩ := hr.ex
  refine ⟨_, pps_cons hk hv h1, fun σ H Q q => ?_⟩
  have q : rdG G (RLi G ((o1 :: o2 :: os).map Opd.isIo)) W (rb (evO o1) fun a => rb (evO o2) fun b => rb (evA os) fun as => rp (a :: b :: as)) σ H (fun vs H' => ∀ ps, flatP ps = vs → Q ps H') := by
    have e : evA (o1 :: o2 :: os) = rb (evO o1) fun a => rb (evO o2) fun b => rb (evA os) fun as => rp (a :: b :: as) := by
      show rb (evO o1) (fun a => rb (rb (evO o2) fun b => rb (evA os) fun as => rp (b :: as)) fun as => rp (a :: as)) = _
      congr 1; funext a
      rw [rb_assoc]; congr 1; funext b
      rw [rb_assoc]; rfl
    rw [← e]; exact q
  refine rdG_mono (rd_start (R := ROp G o1.isIo) q) fun x H1 q1 => ?_
  refine rdG_mono (rd_step (R2 := ROp G o2.isIo) (fun e h => ROp.mn e h) q1) fun y H2 q2 => ?_
  refine h2 _ _ _ (rdG_mono (rd_step (R2 := RLi G (os.map Opd.isIo)) (fun e h => Rp.mn (fun e h => ROp.mn e h) (fun e h => ROp.mn e h) e h) q2) fun ws H3 q3 ps hps => ?_)
  refine rdK_rp (c := x :: y :: ws) q3 ?_ ((x, y) :: ps) (by show x :: y :: flatP ps = _; rw [hps])
  rintro F L ⟨⟨a, b⟩, as⟩ ⟨La, Lb, p, ⟨L1, L2, p2, h1, h2⟩, h3⟩
  refine ⟨.cons h1.1 (.cons h2.1 h3.1 (.refl _)) ?_, by simp [h1.2, h2.2, h3.2]⟩
  exact p.trans ((p2.append_right _).trans (by rw [List.append_assoc]))
noncomputable def pairsV : List T → Option (List (Ky × T))
  | [] => some []
  | k :: v :: r => (keyT k).bind fun c => (pairsV r).map fun ps => (c, v) :: ps
  | _ => none
noncomputable def dispF : List T → Fr
  | .dct true [] [] :: ts => match pairsV ts with
    | some ps => if ps.length ≤ 15 ∧ T.stillA ts = true then .ok (.dct true (mergeT ([], []) ps).1 (mergeT ([], []) ps).2) [] else .bad
    | none => .bad
  | _ => .bad
noncomputable def dispE (os : List Opd) : M T := rb (evO (.own dnewE)) fun d => rb (evA os) fun as => callM dispF (d :: as)
theorem pairsV_ok {F : Hp} : ∀ {ts : List T} {vs : List V} {ps : List (Ky × T)}, TrA G.K G.cn F [] vs ts → pairsV ts = some ps → ∀ zs, flatP zs = vs → ∃ kvs : List (Key × V), zs = kvs.map (fun kv => (kV kv.1, kv.2)) ∧ kvs.map (·.1) = ps.map (fun p => kyK p.1) ∧ TrA G.K G.cn F [] (kvs.map (·.2)) (ps.map (·.2))
  | [], vs, ps, h, e, zs, hz => by
    cases h; cases e
    cases zs with
    | nil => exact ⟨[], rfl, rfl, .nil⟩
    | cons z zs => unfold flatP at hz; cases hz
  | [t], _, _, _, e, _, _ => by unfold pairsV at e; cases e
  | k :: v :: r, vs, ps, h, e, zs, hz => by
    unfold pairsV at e
    obtain ⟨c, ec, e⟩ := Option.bind_eq_some_iff.mp e
    obtain ⟨qs, eq, e⟩ := Option.map_eq_some_iff.mp e
    subst e
    cases h with
    | @cons x1 _ _ _ _ M1 M2 ak ar pk =>
      cases ar with
      | @cons x2 vs2 _ _ _ N1 N2 av an pv =>
        have hM1 : M1 = [] := (List.append_eq_nil_iff.mp (List.nil_perm.mp pk)).1
        have hM2 : M2 = [] := (List.append_eq_nil_iff.mp (List.nil_perm.mp pk)).2
        subst hM1 hM2
        have hN1 : N1 = [] := (List.append_eq_nil_iff.mp (List.nil_perm.mp pv)).1
        have hN2 : N2 = [] := (List.append_eq_nil_iff.mp (List.nil_perm.mp pv)).2
        subst hN1 hN2
        cases zs with
        | nil => unfold flatP at hz; cases hz
        | cons z zs =>
          unfold flatP at hz
          rw [List.cons.injEq, List.cons.injEq] at hz
          obtain ⟨kvs, g1, g2, g3⟩ := pairsV_ok an eq zs hz.2.2
          have hk := key_ok ak ec
          refine ⟨(kyK c, x2) :: kvs, ?_, by rw [List.map_cons, List.map_cons, g2], .cons av g3 (.refl _)⟩
          rw [List.map_cons, ← g1]
          obtain ⟨z1, z2⟩ := z
          dsimp only at hz
          rw [hz.1, hz.2.1, hk]
noncomputable def rDisp : List V → Hp → VK → XK → Prop := fun xs H Q _ => ∃ (p : Addr) (vs : List V), xs = .ref p :: vs ∧ H p = some (.dK []) ∧ ∀ ps, flatP ps = vs → ∃ kvs : List (Key × V), ps = kvs.map (fun kv => (kV kv.1, kv.2)) ∧ kvs.length ≤ 15 ∧ Q (.ref p) (upd H p (.dK (mergeK [] kvs)))
theorem does_disp {io : List Bool} (h : io.all (!·) = true) : Does G (false :: io) dispF rDisp := by
  rintro vs H Q E ⟨F, L, Lf, ts, s, tr, ln, p⟩
  unfold dispF at p
  split at p
  · rename_i us
    split at p
    · rename_i ps hps
      split at p
      · rename_i hc
        cases tr with
        | @cons x vs _ _ _ L1 L2 ta tb pp =>
          cases ta with
          | @dctO a kvs0 _ _ L0 _ hk t0 p0 =>
            cases kvs0 with
            | cons _ _ => simp at hk
            | nil =>
              rw [List.map_nil] at t0
              cases t0
              have hL2 := still_nil tb hc.2
              subst hL2
              have hpm : L.Perm [(a, .dK [])] := by
                refine pp.trans ?_
                rw [List.append_nil]; exact p0
              have s1 : Sx H ((a, .dK []) :: Lf) F := s.perm (hpm.append_right Lf)
              have hpk : pick (false :: io) (.ref a :: vs) = [] := pick_nil (by simpa using h)
              rw [hpk] at p
              refine ⟨a, vs, rfl, s1.cell, fun zs hz => ?_⟩
              obtain ⟨kvs, g1, g2, g3⟩ := pairsV_ok tb hps zs hz
              obtain ⟨m1, m2⟩ := merge_ok (acc := []) (a := ([], [])) g2 g3 rfl .nil
              refine ⟨kvs, g1, by have := congrArg List.length g2; rw [List.length_map, List.length_map] at this; omega, ?_⟩
              exact p (.ref a) _ F [(a, .dK (mergeK [] kvs))] [] (s1.put _) same_refl (.dctO m1 m2 (.refl _)) .nil
      · exact p.elim
    · exact p.elim
  · exact p.elim
theorem de_disp {pos : Pos} {keys : List (Option Expr)} {values : List Expr} {os : List Opd} (hd : DD G W X pos keys values os) (hio : (os.map Opd.isIo).all (!·) = true) (hall : keys.all (·.isSome) = true) (hl : keys.length = values.length) (h0 : keys ≠ []) (h15 : keys.length ≤ 15) :
    DE G W X (.Dict keys values pos) (dispE os) := by
  obtain ⟨trs, h1, h2⟩ := hd.ex
  refine (pe_disp h1 hall hl h0 h15).imp fun σ H Q q a ha => ?_
  have q1 : rdG G (ROp G false) W (evO (.own dnewE)) σ H (fun b H1 => rdK G (ROp G false) b (RV G) W (fun d => rb (evA os) fun as => callM dispF (d :: as)) σ H1 Q) := rd_start q
  have q2 : rdK G (ROp G false) (.ref a) (RV G) W (fun d => rb (evA os) fun as => callM dispF (d :: as)) σ (upd H a (.dK [])) Q := by
    obtain ⟨F, L, Lf, env, s, er, p⟩ := q1
    exact p (.ref a) _ F [(a, .dK [])] L (s.new ha _) same_refl ⟨(Tr.dctO (kvs := []) rfl .nil (.refl _) : Tr G.K G.cn F [(a, .dK [])] (.ref a) (.dct true [] [])), rfl⟩ er
  refine h2 _ _ _ (rdG_mono (rd_step (R2 := RLi G (os.map Opd.isIo)) (fun e h => ROp.mn e h) q2) fun vs H2 q3 ps hps => ?_)
  obtain ⟨p, ws, e, f1, f2⟩ := fin_callm (does_disp hio) q3
  cases e
  exact ⟨f1, f2 ps hps⟩
end
end En
set_option maxRecDepth 100000
set_option maxHeartbeats 1000000
namespace En
open PySem PySem.Spec PyProof.Rows L2 Gk
open Cd (en)
/-- == of whatever -/
class Xq (α : Type) [Cd α] where
  xe : α → α → Option Bool
  n : Nat
  ok : ∀ m, n ≤ m → ∀ (o p : Bool) (x y : α) (b : Bool), xe x y = some b → eqd m (en o x) (en p y) = some b
/-- it holds a dict -/
class HasD (α : Type) [Cd α] : Prop where
  hd : ∀ o (x : α) d, (en o x).data = some d → noD d = false
theorem eqd_scal {a b : T} {k : Bool} (h : scalB a b = some k) (n : Nat) : eqd (n + 1) a b = some k := by unfold eqd; rw [h]
section
variable {α β κ : Type} [Cd α] [Cd β]
theorem scal_da [DecidableEq α] [Da α] (h : Da.n α ≤ 64) (o p : Bool) (x y : α) : scalB (en o x) (en p y) = some (decide (x = y)) := by
  have e := q_eqD (o := o) (p := p) x y h
  unfold eqT at e
  obtain ⟨k, hk, e⟩ := Option.map_eq_some_iff.mp e
  rw [hk]
  have : T.bl k = T.bl (decide (x = y)) := e
  cases this; rfl
@[reducible] def xqD [DecidableEq α] [Da α] (h : Da.n α ≤ 64) : Xq α := ⟨fun x y => some (decide (x = y)), 1, fun m hm o p x y b e => by
  cases e
  cases m with
  | zero => omega
  | succ m => exact eqd_scal (scal_da h o p x y) m⟩
noncomputable instance xTx : Xq Tx := xqD (Nat.zero_le _)
noncomputable instance xInt : Xq Int := xqD (Nat.zero_le _)
noncomputable instance xLTx : Xq (List Tx) := xqD (show 0 + 1 ≤ 64 by decide)
noncomputable instance xLInt : Xq (List Int) := xqD (show 0 + 1 ≤ 64 by decide)
noncomputable instance xFz [Xq α] : Xq (Fz α) := ⟨fun x y => Xq.xe x.x y.x, Xq.n α, fun m hm o p x y b e => Xq.ok m hm false false x.x y.x b e⟩
variable [Kc κ] [DecidableEq κ]
noncomputable def xeD [Xq α] (d : Dc κ α) : List (κ × α) → Option Bool
  | [] => some true
  | p :: r => match dgO d p.1 with
    | none => (xeD d r).map fun _ => false
    | some u => (Xq.xe p.2 u).bind fun x => (xeD d r).map fun y => x && y
theorem look_dc (l : List (κ × α)) (o : Bool) (k : κ) : lookK (Kc.ky k) (l.map fun p => Kc.ky p.1) (l.map fun p => en o p.2) = (dgO (⟨l⟩ : Dc κ α) k).map (en o) := by
  induction l with
  | nil => rfl
  | cons p l ih =>
    obtain ⟨c, v⟩ := p
    have e : dgO (⟨(c, v) :: l⟩ : Dc κ α) k = if k = c then some v else dgO (⟨l⟩ : Dc κ α) k := by
      have e : ∀ z : Bool, z = decide (k = c) → (match z with | true => some v | false => dgO (⟨l⟩ : Dc κ α) k) = if k = c then some v else dgO (⟨l⟩ : Dc κ α) k := by
        rintro z rfl
        by_cases h : k = c
        · rw [if_pos h, decide_eq_true h]
        · rw [if_neg h, decide_eq_false h]
      exact e (k == c) (by rw [Bool.eq_iff_iff]; simp)
    rw [e, List.map_cons, List.map_cons, lookK]
    by_cases h : k = c
    · subst h; rw [if_pos rfl, if_pos rfl]; rfl
    · rw [if_neg h, if_neg fun z => h (Kc.inj _ _ z).symm]; exact ih
theorem eqK_dc [Xq α] (d : Dc κ α) (o p : Bool) (m : Nat) (hm : Xq.n α ≤ m) : ∀ (l : List (κ × α)) (b : Bool), xeD d l = some b → eqK (eqd m) (d.l.map fun q => Kc.ky q.1) (d.l.map fun q => en p q.2) (l.map fun q => Kc.ky q.1) (l.map fun q => en o q.2) = some b
  | [], b, e => by cases e; rfl
  | q :: l, b, e => by
    unfold xeD at e
    rw [List.map_cons, List.map_cons]
    unfold eqK
    rw [look_dc]
    cases hq : dgO d q.1 with
    | none =>
      rw [hq] at e
      obtain ⟨y, hy, e⟩ := Option.map_eq_some_iff.mp e
      show (eqK _ _ _ _ _).map _ = _
      rw [eqK_dc d o p m hm l y hy, ← e]; rfl
    | some u =>
      rw [hq] at e
      dsimp only at e
      obtain ⟨x, hx, e⟩ := Option.bind_eq_some_iff.mp e
      obtain ⟨y, hy, e⟩ := Option.map_eq_some_iff.mp e
      show (eqd m (en o q.2) (en p u)).bind _ = _
      rw [Xq.ok m hm o p q.2 u x hx, Option.bind_some, eqK_dc d o p m hm l y hy, ← e]; rfl
noncomputable instance hdD   : HasD (Dc κ α) := ⟨fun o x d e => by
  have e : (T.dataA (x.l.map fun q => en o q.2)).map _ = some d := e
  obtain ⟨ds, _, e⟩ := Option.map_eq_some_iff.mp e
  rw [← e]; rfl⟩
noncomputable instance xqDc [Xq α] : Xq (Dc κ α) := ⟨fun d e => if d.l.length = e.l.length then xeD e d.l else some false, Xq.n α + 1, fun m hm o p x y b e => by
  cases m with
  | zero => omega
  | succ m =>
    have hs : scalB (en o x) (en p y) = none := by
      show eqB (en o x) (en p y) = none
      unfold eqB
      cases h1 : (en o x).data with
      | none => rfl
      | some d =>
        cases h2 : (en p y).data with
        | none => rfl
        | some d' =>
          dsimp only
          rw [HasD.hd o x d h1]; rfl
    unfold eqd
    rw [hs]
    show (if (x.l.map fun q => Kc.ky q.1).length = (y.l.map fun q => Kc.ky q.1).length then eqK (eqd m) (y.l.map fun q => Kc.ky q.1) (y.l.map fun q => en p q.2) (x.l.map fun q => Kc.ky q.1) (x.l.map fun q => en o q.2) else some false) = some b
    rw [List.length_map, List.length_map]
    by_cases h : x.l.length = y.l.length
    · rw [if_pos h] at e ⊢; exact eqK_dc y o p m (by omega) x.l b e
    · rw [if_neg h] at e ⊢; exact e⟩
end
section
variable {α : Type} [Cd α]
noncomputable def xeL [Xq α] : List α → List α → Option Bool
  | [], [] => some true
  | a :: as, b :: bs => (Xq.xe a b).bind fun x => (xeL as bs).map fun y => x && y
  | _, _ => none
theorem eqL_xe [Xq α] (m : Nat) (hm : Xq.n α ≤ m) (o p : Bool) : ∀ (l r : List α) (b : Bool), xeL l r = some b → eqL (eqd m) (l.map (en o)) (r.map (en p)) = some b
  | [], [], b, e => by cases e; rfl
  | [], _ :: _, _, e => by cases e
  | _ :: _, [], _, e => by cases e
  | x :: l, y :: r, b, e => by
    unfold xeL at e
    obtain ⟨x', hx, e⟩ := Option.bind_eq_some_iff.mp e
    obtain ⟨y', hy, e⟩ := Option.map_eq_some_iff.mp e
    rw [List.map_cons, List.map_cons, eqL, Xq.ok m hm o p x y x' hx, Option.bind_some, eqL_xe m hm o p l r y' hy, ← e]; rfl
theorem hd_lst [HasD α] {l : List α} {o : Bool} {d : PyData} (h : T.data (en o l) = some d) (hn : noD d = true) : l = [] := by
  cases l with
  | nil => rfl
  | cons x l =>
    have h : (T.dataA ((x :: l).map (en o))).map PyData.list = some d := h
    obtain ⟨ds, h1, h2⟩ := Option.map_eq_some_iff.mp h
    rw [List.map_cons, T.dataA] at h1
    cases hx : (en o x).data with
    | none => rw [hx] at h1; cases h1
    | some d0 =>
      cases hl : T.dataA (l.map (en o)) with
      | none => rw [hx, hl] at h1; cases h1
      | some ds0 =>
        rw [hx, hl] at h1; cases h1
        subst h2
        have : (noD d0 && noDA ds0) = true := hn
        rw [HasD.hd o x d0 hx] at this; cases this
noncomputable instance xqL [Xq α] [HasD α] : Xq (List α) := ⟨fun l r => if l.length = r.length then xeL l r else some false, Xq.n α + 1, fun m hm o p x y b e => by
  cases m with
  | zero => omega
  | succ m =>
    cases hs : scalB (en o x) (en p y) with
    | some k =>
      have hs' : eqB (en o x) (en p y) = some k := hs
      unfold eqB at hs'
      cases h1 : (en o x).data with
      | none => rw [h1] at hs'; cases hs'
      | some d =>
        cases h2 : (en p y).data with
        | none => rw [h1, h2] at hs'; cases hs'
        | some d' =>
          rw [h1, h2] at hs'
          dsimp only at hs'
          split at hs'
          · rename_i hc
            simp only [Bool.and_eq_true] at hc
            have e1 := hd_lst h1 hc.1.1.1
            have e2 := hd_lst h2 hc.1.1.2
            subst e1 e2
            have e : (some true : Option Bool) = some b := e
            cases e
            rw [eqd_scal hs]
            have h1 : some (PyData.list []) = some d := h1
            have h2 : some (PyData.list []) = some d' := h2
            cases h1; cases h2
            exact hs'.symm
          · cases hs'
    | none =>
      unfold eqd
      rw [hs]
      show (if (x.map (en o)).length = (y.map (en p)).length then eqL (eqd m) (x.map (en o)) (y.map (en p)) else some false) = some b
      rw [List.length_map, List.length_map]
      by_cases h : x.length = y.length
      · rw [if_pos h] at e ⊢; exact eqL_xe m (by omega) o p x y b e
      · rw [if_neg h] at e ⊢; exact e⟩
end
section
variable {α κ : Type} [Cd α] [Cd κ] [Kc κ] [DecidableEq κ] [Kk κ] [Fq κ] [Fq α]
noncomputable def flatT {o : Bool} : List (κ × α) → List T
  | [] => []
  | p :: r => en false p.1 :: en false p.2 :: flatT (o := o) r
theorem still_fl (l : List (κ × α)) : T.stillA (flatT (o := true) l) = true := by
  induction l with
  | nil => rfl
  | cons p l ih =>
    show ((en false p.1).still && ((en false p.2).still && T.stillA (flatT (o := true) l))) = true
    rw [ih, ← Cd.frz true p.1, ← Cd.frz true p.2, frz_still, frz_still]; rfl
theorem pairsV_fl (l : List (κ × α)) : pairsV (flatT (o := true) l) = some (l.map fun p => (Kc.ky p.1, en false p.2)) := by
  induction l with
  | nil => rfl
  | cons p l ih =>
    show (keyT (en false p.1)).bind (fun c => (pairsV (flatT (o := true) l)).map fun ps => (c, en false p.2) :: ps) = _
    rw [Kk.kt, ih]; rfl
theorem disp_e (l : List (κ × α)) (hl : l.length ≤ 15) : dispF (.dct true [] [] :: flatT (o := true) l) = .ok (en true (mgD l)) [] := by
  show (match pairsV (flatT (o := true) l) with | some ps => if ps.length ≤ 15 ∧ T.stillA (flatT (o := true) l) = true then Fr.ok (.dct true (mergeT ([], []) ps).1 (mergeT ([], []) ps).2) [] else .bad | none => .bad) = _
  rw [pairsV_fl]
  dsimp only
  rw [if_pos ⟨by rw [List.length_map]; exact hl, still_fl l⟩]
  have := merge_map l []
  have e : mergeT ([], []) (l.map fun p => (Kc.ky p.1, en false p.2)) = ((mgL l).map (fun p => Kc.ky p.1), (mgL l).map (fun p => en false p.2)) := this
  rw [e]
  show Fr.ok (T.dct true ((mgL l).map fun p => Kc.ky p.1) ((mgL l).map fun p => en false p.2)) [] = Fr.ok (T.dct true ((mgL l).map fun p => Kc.ky p.1) ((mgL l).map fun p => en true p.2)) []
  congr 2
  exact List.map_congr_left fun p _ => Fq.fq false p.2
theorem q_disp1 {o p : Bool} (k : κ) (v : α) : dispF [.dct true [] [], en o k, en p v] = .ok (en true (mgD [(k, v)])) [] := by
  rw [Fq.fq o k, Fq.fq p v, ← Fq.fq false k, ← Fq.fq false v]
  exact disp_e [(k, v)] (by simp)
theorem q_disp2 {o p o' p' : Bool} (k k' : κ) (v v' : α) : dispF [.dct true [] [], en o k, en p v, en o' k', en p' v'] = .ok (en true (mgD [(k, v), (k', v')])) [] := by
  rw [Fq.fq o k, Fq.fq p v, ← Fq.fq false k, ← Fq.fq false v, Fq.fq o' k', Fq.fq p' v', ← Fq.fq false k', ← Fq.fq false v']
  exact disp_e [(k, v), (k', v')] (by simp)
end
end En
set_option maxRecDepth 100000
set_option maxHeartbeats 1000000
namespace En
open PySem PySem.Spec PyProof.Rows L2 Gk
local macro_rules | `(tactic| walk_at "pm") => `(tactic| (simp only [List.perm_iff_count, List.count_append, List.count_cons, List.count_nil] at *; grind))
noncomputable def drpR : Fr → Fr
  | .ok t (_ :: os) => .ok t os
  | .exc C x (_ :: os) => .exc C x os
  | _ => .bad
noncomputable def drp (mf : List T → Fr) : List T → Fr := fun ts => drpR (mf ts)
theorem does_drp {G : Ct} {r : List Bool} {mf : List T → Fr} {B : List V → Hp → VK → XK → Prop} (hB : Does G (true :: r) mf B) : Does G (false :: r) (drp mf) B := by
  rintro vs H Q E ⟨F, L, Lf, ts, s, tr, ln, p⟩
  cases vs with
  | nil =>
    cases tr
    have l0 := ln.l; simp at l0
  | cons v0 vs =>
    refine hB _ _ _ _ ⟨F, L, Lf, ts, s, tr, ⟨by simpa using ln.l, ln.t⟩, ?_⟩
    unfold drp at p
    cases hm : mf ts with
    | ok t os =>
      rw [hm] at p
      intro v H' F' L1 Lo s' sm tr' ta
      cases ta with
      | @cons _ _ _ _ _ La Lb a b pp =>
        exact p v H' F' L1 Lb ((s'.perm (M := La ++ (L1 ++ (Lb ++ Lf))) (by walk_at "pm")).right) sm tr' b
    | exc C x os =>
      rw [hm] at p
      intro v d H' F' L1 Lo s' sm tr' ta
      cases ta with
      | @cons _ _ _ _ _ La Lb a b pp =>
        exact p v d H' F' L1 Lb ((s'.perm (M := La ++ ((d, xdO C v) :: (L1 ++ (Lb ++ Lf)))) (by walk_at "pm")).right) sm tr' b
    | bad => rw [hm] at p; exact p.elim
theorem q_drp {mf : List T → Fr} {ts os : List T} {t o : T} (h : mf ts = .ok t (o :: os)) : drp mf ts = .ok t os := by unfold drp; rw [h]; rfl
end En
set_option maxRecDepth 100000
set_option maxHeartbeats 2000000
namespace En
open PySem PySem.Spec PyProof.Rows L2 Gk
local macro_rules | `(tactic| walk_at "pm") => `(tactic| (simp only [List.perm_iff_count, List.count_append, List.count_cons, List.count_nil] at *; grind))
open Cd (en)
noncomputable def kDisp (as : List AT) : M T := callM dispF (.o (.dct true [] []) :: as)
theorem q_kDisp (as : List AT) (e : Env) : kDisp as e = callM dispF (.o (.dct true [] []) :: as) e := rfl
theorem q_dispE (os : List Opd) (e : Env) : dispE os e = (evA os e).b kDisp := by
  unfold dispE
  rw [rb_e]
  show (Rs.ok (AT.o (T.dct true [] [])) e).b _ = _
  rw [rsb_ok, rb_e]; rfl
end En
set_option maxRecDepth 100000
set_option maxHeartbeats 1000000
namespace En
open PySem PySem.Spec PyProof.Rows L2 Gk
open Cd (en)
end En
set_option maxRecDepth 100000
set_option maxHeartbeats 1000000
namespace En
open PySem PySem.Spec PyProof.Rows L2 Gk
end En
set_option maxRecDepth 100000
set_option maxHeartbeats 1000000
namespace En
open PySem PySem.Spec PyProof.Rows L2 Gk
end En
set_option maxRecDepth 100000
set_option maxHeartbeats 1000000
namespace En
open PySem PySem.Spec PyProof.Rows L2 Gk
end En
set_option maxRecDepth 100000
set_option maxHeartbeats 1000000
namespace En
open PySem PySem.Spec PyProof.Rows L2 Gk
end En
set_option maxRecDepth 100000
set_option maxHeartbeats 1000000
namespace En
open PySem PySem.Spec PyProof.Rows L2 Gk
end En
set_option maxRecDepth 100000
set_option maxHeartbeats 1000000
namespace En
open PySem PySem.Spec PyProof.Rows L2 Gk
end En
set_option maxRecDepth 100000
set_option maxHeartbeats 1000000
namespace En
open PySem PySem.Spec PyProof.Rows L2 Gk
open Cd (en)
end En
set_option maxRecDepth 100000
set_option maxHeartbeats 1000000
namespace En
open PySem PySem.Spec PyProof.Rows L2 Gk
open Cd (en)
end En
set_option maxRecDepth 100000
set_option maxHeartbeats 1000000
namespace En
open PySem PySem.Spec PyProof.Rows L2 Gk
end En
set_option maxRecDepth 100000
set_option maxHeartbeats 1000000
namespace PySem.SeqAt
open AutoSeq1 (wpAny_loadPart')
open MeetsSeq MeetsSeq2 MeetsSeq3 SeqRoads2
end PySem.SeqAt
namespace PySem.W
open PySem PySem.Calls PyProof.Rows PyProof.V PySem.Spec
end PySem.W
namespace En
open PySem PySem.Spec PyProof.Rows L2 Gk
end En
set_option maxRecDepth 100000
set_option maxHeartbeats 1000000
namespace En
open PySem PySem.Spec PyProof.Rows L2 Gk
open Cd (en)
end En
set_option maxRecDepth 100000
set_option maxHeartbeats 1000000
namespace En
open PySem PySem.Spec PyProof.Rows L2 Gk
open Cd (en)
variable {G : Ct}
theorem okA_o (chk : T → Bool) (x : T) (e : Env) : okA chk (.o x) e = chk x := rfl
end En
set_option maxRecDepth 100000
set_option maxHeartbeats 1000000
namespace En
open PySem PySem.Spec PyProof.Rows L2 Gk
open Cd (en)
variable {G : Ct}
local macro_rules | `(tactic| walk_at "pm") => `(tactic| (simp only [List.perm_iff_count, List.count_append, List.count_cons, List.count_nil] at *; grind))
end En
set_option maxRecDepth 100000
set_option maxHeartbeats 1000000
namespace En
open PySem PySem.Spec PyProof.Rows L2 Gk
open Cd (en)
end En
set_option maxRecDepth 100000
set_option maxHeartbeats 1000000
namespace En
open PySem PySem.Spec PyProof.Rows L2 Gk
local macro_rules | `(tactic| walk_at "pm") => `(tactic| (simp only [List.perm_iff_count, List.count_append, List.count_cons, List.count_nil] at *; grind))
end En
set_option maxRecDepth 100000
set_option maxHeartbeats 1000000
namespace En
open PySem PySem.Spec PyProof.Rows L2 Gk
open Cd (en)
noncomputable def unOk : T → Bool
  | .atv _ _ => false
  | _ => true
theorem un_not : ∀ t : T, unOk t.un = true
  | .atv _ t => un_not t
  | .unb => rfl
  | .non => rfl
  | .bl _ => rfl
  | .int _ => rfl
  | .str _ => rfl
  | .lst _ _ => rfl
  | .tup _ => rfl
  | .dct _ _ _ => rfl
  | .ins _ _ _ _ => rfl
  | .sq _ => rfl
  | .ty _ => rfl
  | .cls _ => rfl
  | .ptr _ _ => rfl
  | .exn _ _ => rfl
noncomputable def okU (t : T) : Bool := t.still && t.isV && !t.isE && unOk t
theorem un_self {t : T} (h : unOk t = true) : t.un = t := by cases t <;> first | rfl | cases h
structure Uv where
  t : T
  h : okU t = true
theorem Uv.ext {a b : Uv} (h : a.t = b.t) : a = b := by cases a; cases b; cases h; rfl
theorem okU_and {t : T} (h : okU t = true) : t.still = true ∧ t.isV = true ∧ t.isE = false ∧ unOk t = true := by
  unfold okU at h
  simp only [Bool.and_eq_true, Bool.not_eq_true'] at h
  exact ⟨h.1.1.1, h.1.1.2, h.1.2, h.2⟩
noncomputable instance iUv : Cd Uv := ⟨fun _ x => x.t, fun _ x => (okU_and x.h).2.1, fun _ x => still_frz _ (okU_and x.h).1, fun _ x => un_self (okU_and x.h).2.2.2, fun _ x => (okU_and x.h).2.2.1⟩
noncomputable instance : Fq Uv := ⟨fun _ _ => rfl⟩
section
variable {α : Type} [Cd α]
theorem okU_en (x : α) : okU (en false x) = true := by
  have h1 : (en false x).still = true := by rw [← Cd.frz false x]; exact frz_still _
  have h2 := Cd.isV false x
  have h3 := Cd.noe false x
  have h4 : unOk (en false x) = true := by rw [← Cd.un false x]; exact un_not _
  unfold okU
  rw [h1, h2, h3, h4]; rfl
noncomputable def Uv.of (x : α) : Uv := ⟨en false x, okU_en x⟩
theorem q_of (o : Bool) (x : α) : (en o (Uv.of x) : T) = en false x := rfl
end
noncomputable def asS (u : Uv) : Option Tx := match u.t with
  | .str l => if nn (l.map Char.ofNat) = l then some (l.map Char.ofNat) else none
  | _ => none
theorem asS_e {u : Uv} {s : Tx} (h : asS u = some s) (o : Bool) : (en o u : T) = en true s := by
  show u.t = .str (nn s)
  unfold asS at h
  split at h
  · rename_i l e
    split at h
    · rename_i h2
      cases h
      rw [e, h2]
    · cases h
  · cases h
noncomputable def uIs (n : String) (u : Uv) : Option Bool := isiB u.t (.ty n)
theorem q_uIs {n : String} {u : Uv} {b : Bool} (h : uIs n u = some b) (o : Bool) : isiT (en o u) (.ty n) = some (en true b) := by
  show (isiB u.t (.ty n)).map T.bl = _
  rw [show isiB u.t (.ty n) = some b from h]; rfl
theorem q_uIs2 {n : String} {u : Uv} {b : Bool} (h : uIs n u = some b) (o : Bool) : isiK n (tyT (en o u)) = some (en true b) := by
  rw [← isi_e]; exact q_uIs h o
end En
set_option maxRecDepth 100000
set_option maxHeartbeats 1000000
namespace En
open PySem PySem.Spec PyProof.Rows L2 Gk LamX NdefX
local macro_rules | `(tactic| walk_at "pm") => `(tactic| (simp only [List.perm_iff_count, List.count_append, List.count_cons, List.count_nil] at *; grind))
end En
set_option maxRecDepth 100000
set_option maxHeartbeats 1000000
namespace En
open PySem PySem.Spec PyProof.Rows L2 Gk LamX NdefX
local macro_rules | `(tactic| walk_at "pm") => `(tactic| (simp only [List.perm_iff_count, List.count_append, List.count_cons, List.count_nil] at *; grind))
end En
set_option maxRecDepth 100000
set_option maxHeartbeats 1000000
namespace En
open PySem PySem.Spec PyProof.Rows L2 Gk LamX NdefX
local macro_rules | `(tactic| walk_at "pm") => `(tactic| (simp only [List.perm_iff_count, List.count_append, List.count_cons, List.count_nil] at *; grind))
end En
set_option maxRecDepth 100000
set_option maxHeartbeats 2000000
namespace En
open PySem PySem.Spec PyProof.Rows L2 Gk
local macro_rules | `(tactic| walk_at "pm") => `(tactic| (simp only [List.perm_iff_count, List.count_append, List.count_cons, List.count_nil] at *; grind))
end En
set_option maxRecDepth 100000
set_option maxHeartbeats 2000000
namespace En
open PySem PySem.Spec PyProof.Rows L2 Gk
open Cd (en)
local macro_rules | `(tactic| walk_at "pm") => `(tactic| (simp only [List.perm_iff_count, List.count_append, List.count_cons, List.count_nil] at *; grind))
end En
set_option maxRecDepth 100000
set_option maxHeartbeats 1000000
namespace Gk
open PySem PySem.Spec PyProof.Rows L2 LamX
end Gk
set_option maxRecDepth 100000
set_option maxHeartbeats 2000000
namespace En
open PySem PySem.Spec PyProof.Rows L2 Gk
open Cd (en)
theorem ps_tryN {X : Cx} {body : List Stmt} {h0 : ExceptHandler} {hs : List ExceptHandler} {t : TS} {pos : Pos} (hb : ∀ (pn : List (Addr × Obj)) (xe : Value → Shared → Prop), PassesOwn (model X.prog X.w) X.A X.env xe → L2.PSs (X.tr pn xe) body t) : L2.PS X (.Try body (h0 :: hs) [] [] pos) t := by
  constructor
  intro pins s σ H D I h
  have ok := I.ok
  refine wpAny_Try_except (wpAny_mono ((hb (X.pn ++ pins) _ PassesOwn.looking).run [] s σ H D (I.toTry _) h) (fun f s' q => ?_) fun _ _ z => z)
  have z := SP.ofTry ok q
  cases f with
  | next => exact wpAny_execs_nil z
  | _ => exact z
theorem ds_tryN {G : Ct} {W : WX} {J : List Nat} {X : Cx} {body : List Stmt} {h0 : ExceptHandler} {hs : List ExceptHandler} {mb : Sm} {pos : Pos}
    (hb : ∀ (pn : List (Addr × Obj)) (xe : Value → Shared → Prop), PassesOwn (model X.prog X.w) X.A X.env xe → DSs G W0 J (X.tr pn xe) body mb) : DS G W J X (.Try body (h0 :: hs) [] [] pos) (noXS mb) := (ps_tryN hb).imp fun D σ H q => by
  obtain ⟨F, L, Lf, env, s, er, p⟩ := q
  refine ⟨F, L, Lf, env, s, er, ?_⟩
  unfold noXS at p
  cases e : mb env with
  | exc C x e' => rw [e] at p; exact p.elim
  | nxt e' => rw [e] at p; exact p
  | ret t e' => rw [e] at p; exact p
  | brk e' => rw [e] at p; exact p.elim
  | cnt e' => rw [e] at p; exact p.elim
  | bad => rw [e] at p; exact p.elim
theorem q_appZq {α : Type} [Cd α] [Fq α] (l : List (Fz α)) (x : α) : appF [en true l, en true x] = frA (apO l (Fz.mk x)) := by rw [← Fq.fq false x]; exact q_appZ l x
section
variable {α β γ : Type} [Cd α] [Cd β]
noncomputable instance iSm : Cd (α ⊕ β) := ⟨fun o x => match x with
  | .inl a => en o a
  | .inr b => en o b, fun o x => match x with | .inl a => Cd.isV o a | .inr a => Cd.isV o a, fun o x => match x with | .inl a => Cd.frz o a | .inr a => Cd.frz o a, fun o x => match x with | .inl a => Cd.un o a | .inr a => Cd.un o a, fun o x => match x with | .inl a => Cd.noe o a | .inr a => Cd.noe o a⟩
noncomputable instance qSm [Fq α] [Fq β] : Fq (α ⊕ β) := ⟨fun o x => match x with | .inl a => Fq.fq o a | .inr a => Fq.fq o a⟩
noncomputable instance oSm [Ow α] [Ow β] : Ow (α ⊕ β) := ⟨fun x => match x with | .inl a => Ow.ow a | .inr a => Ow.ow a⟩
noncomputable instance nSm [Nn α] [Nn β] : Nn (α ⊕ β) := ⟨fun o x => match x with | .inl a => Nn.nn o a | .inr a => Nn.nn o a⟩
noncomputable instance nfSm : Nf (α ⊕ β) := ⟨trivial⟩
theorem q_inl (o : Bool) (a : α) : (en o (Sum.inl a : α ⊕ β)) = en o a := rfl
theorem q_inr (o : Bool) (b : β) : (en o (Sum.inr b : α ⊕ β)) = en o b := rfl
end
class Tu (α : Type) [Cd α] : Prop where
  ty : ∀ o (x : α), tyT (en o x) = some "tuple"
noncomputable instance tuP2 {α β : Type} [Cd α] [Cd β] : Tu (α × β) := ⟨fun _ _ => rfl⟩
noncomputable instance tuP1 {α : Type} [Cd α] : Tu (P1 α) := ⟨fun _ _ => rfl⟩
noncomputable instance tuP3 {α β γ : Type} [Cd α] [Cd β] [Cd γ] : Tu (P3 α β γ) := ⟨fun _ _ => rfl⟩
noncomputable instance tuP4 {α β γ δ : Type} [Cd α] [Cd β] [Cd γ] [Cd δ] : Tu (P4 α β γ δ) := ⟨fun _ _ => rfl⟩
noncomputable instance tuP5 {α β γ δ ε : Type} [Cd α] [Cd β] [Cd γ] [Cd δ] [Cd ε] : Tu (P5 α β γ δ ε) := ⟨fun _ _ => rfl⟩
theorem q_tyU {α β : Type} [Cd α] [Cd β] [Tu α] [Tu β] (o : Bool) (x : α ⊕ β) : tyT (en o x) = some "tuple" := by
  cases x with
  | inl a => exact Tu.ty o a
  | inr b => exact Tu.ty o b
end En
set_option maxRecDepth 100000
set_option maxHeartbeats 2000000
namespace En
open PySem PySem.Spec PyProof.Rows L2 Gk
open Cd (en)
local macro_rules | `(tactic| walk_at "pm") => `(tactic| (simp only [List.perm_iff_count, List.count_append, List.count_cons, List.count_nil] at *; grind))
noncomputable def DictC (K : PySem.W.Frag) (w : World) (mg : Str → Option Value) (x : Str) (tbl : List (List Nat × Str)) : Prop := ∃ D, mg x = some (.ref D) ∧ ∀ p ∈ tbl, KDct K w D (tx p.1) (.ref (cnOf mg p.2))
noncomputable def wgT (tbl : List (List Nat × Str)) : T → Option T
  | .str s => (tbl.lookup s).map T.cls
  | _ => none
section
variable {G : Ct} {W : WX} {X : Cx}
theorem look_in {α β : Type} [BEq α] [LawfulBEq α] {l : List (α × β)} {a : α} {b : β} (h : l.lookup a = some b) : (a, b) ∈ l := by
  induction l with
  | nil => simp at h
  | cons p l ih =>
    obtain ⟨c, d⟩ := p
    rw [List.lookup_cons] at h
    split at h
    · rename_i e
      cases h
      rw [eq_of_beq e]; exact List.mem_cons_self
    · exact List.mem_cons_of_mem _ (ih h)
theorem de_wg {x : Str} {tbl : List (List Nat × Str)} {p pos : Pos} {b : Expr} {o : Opd} (hD : DictC X.K X.w X.mg x tbl) (hcn : G.cn = cnOf X.mg) (ho : DO G W X b o) (hs : PlainIx b) (h1 : o.isIo = false := by rfl) (hg : Gl X x := by rfl) (hd : (x == ("__debug__" : Str)) = false := by decide) :
    DE G W X (.Subscript (.Name x p) b pos) (callE1 (f1 (wgT tbl)) o) := by
  obtain ⟨D, hm, hk⟩ := hD
  have hdo : Does1 G (fun y H Q => ∃ z v, y = .str z ∧ KDct X.K X.w D z v ∧ Q v H) (f1 (wgT tbl)) := does1_f1 fun {F H La Lf y a t Q} s ta e q => by
    unfold wgT at e
    split at e
    · rename_i s'
      simp only [Option.map_eq_some_iff] at e
      obtain ⟨n, e, rfl⟩ := e
      have := hk _ (look_in e)
      rw [ta.strI]
      refine ⟨tx s', _, rfl, this, ?_⟩
      rw [← hcn]
      exact q _ H F [] s.right same_refl (.cls n)
    · cases e
  refine (pe_ix (r := rIxD X.K X.w) ix_kdict (pe_glob (v := .ref D) (u := .ref D) hg hm rfl hd) ho hs).imp fun σ H Q q => ?_
  show rdG G (ROp G o.isIo) W (evO o) σ H fun y H2 => rIxD X.K X.w (.ref D) y H2 Q
  exact rdG_mono (op1_imp hdo h1 q) fun y H2 ⟨z, v, e, k, q⟩ => ⟨D, z, v, rfl, e, k, q⟩
noncomputable def dspE (tbl : List (Str × (List T → Fr))) (i : Nat) (os : List Opd) : M T := fun e => match e[i]? with
  | some (.cls n) => match tbl.lookup n with
    | some mf => callE mf os e
    | none => .bad
  | _ => .bad
theorem de_dsp {tbl : List (Str × (List T → Fr))} {i kk : Nat} {x : Str} {p pos : Pos} {e : Expr} {es : List Expr} {op : Opd} {os : List Opd} (hcn : G.cn = cnOf X.mg) (hall : ∀ q ∈ tbl, ∃ k ps, k ≤ kk ∧ CalX X q.1 k ps [] (spE G ((op :: os).map Opd.isIo) q.2)) (rm : Rm kk X.A) (tk : Takes X W)
    (ho : L2.PE X (.Name x p) (tVar i)) (ha : DA G W X (e :: es) (op :: os))
    (he : starEach (e :: es) X.env = (false, eval e X.env) :: starEach es X.env := by rfl) (hpl : (backTo pos (starEach es X.env)).any (·.1) = false := by rfl) :
    DE G W X (.Call (.Name x p) (e :: es) [] pos) (dspE tbl i (op :: os)) := by
  refine ⟨fun pins s σ H Q I q => ?_⟩
  obtain ⟨F, L, Lf, env, sx, er, pp⟩ := q
  unfold dspE at pp
  cases hi : env[i]? with
  | none => rw [hi] at pp; exact pp.elim
  | some t =>
    rw [hi] at pp
    cases t with
    | cls n =>
      dsimp only at pp
      cases hl : tbl.lookup n with
      | none => rw [hl] at pp; exact pp.elim
      | some mf =>
        rw [hl] at pp
        dsimp only at pp
        obtain ⟨k, ps, hk, c⟩ := hall _ (look_in hl)
        obtain ⟨f, fd, ds, hm, kp, hb, hv, FF⟩ := c
        obtain ⟨v, hs⟩ := slot_of er hi rfl
        have hv2 : v = .ref f := by
          obtain ⟨o, La, Lb, e1, pm, sl, put⟩ := er.get hi
          rw [hs] at e1
          cases Option.some.inj e1
          cases sl with
          | val tr =>
            cases tr
            rw [hcn, cnOf_eq hm]
        subst hv2
        refine wpAny_Call_Name_kw (thn (ho.run pins s σ H (fun v H1 => v = .ref f ∧ H1 = H) I ⟨.ref f, hs, rfl, rfl⟩) fun u s1 ⟨v, H1, I1, r1, q1⟩ => ?_)
        obtain ⟨rfl, rfl⟩ := q1
        cases r1
        have q0 : rdG G (RLi G ((op :: os).map Opd.isIo)) W (evA (op :: os)) σ H1 fun vs H2 => spE G ((op :: os).map Opd.isIo) mf (vs ++ []) H2 Q (fun c d H' => W c d σ H') :=
          rdG_mono (rd_start (R := RLi G ((op :: os).map Opd.isIo)) ⟨F, L, Lf, env, sx, er, pp⟩) fun vs H2 q1 => fin_call (B := fun vs H Q E => spE G ((op :: os).map Opd.isIo) mf (vs ++ []) H Q E) does_cal q1
        refine PySem.W.callWith_K (h₀ := X.base) I1.ok.mod.kin kp (thn (ha.run pos pins s1 σ _ _ I1 q0) ?_) he hpl
        rintro us s2 ⟨vs, H2, I2, r, q2⟩
        have hds : ds = [] := by cases hv; rfl
        subst hds
        exact ⟨I2.kIn, run_gp (dvs := []) (ds := []) FF (rm.mono hk) tk hb .nil I2 r q2⟩
    | _ => exact pp.elim
end
section
variable {G : Ct} {W : WX} {X : Cx} {σ : Sg} {F : Hp}
theorem ATL.snoc {v : V} {a : AT} {L2 : List Cell} (h2 : ATR G σ F L2 v a) : ∀ {L1 : List Cell} {vs : List V} {as : List AT}, ATL G σ F L1 vs as → ∃ L, L.Perm (L1 ++ L2) ∧ ATL G σ F L (vs ++ [v]) (as ++ [a])
  | _, _, _, .nil => ⟨L2, by simp, .cons h2 .nil (by simp)⟩
  | _, _, _, .cons b r p => by
    obtain ⟨L, q, t⟩ := ATL.snoc h2 r
    exact ⟨_ ++ L, by walk_at "pm", .cons b t (.refl _)⟩
end
end En
set_option maxRecDepth 100000
set_option maxHeartbeats 2000000
namespace En
open PySem PySem.Spec PyProof.Rows L2 Gk
open Cd (en)
structure Fu where
  n : Str
deriving DecidableEq
noncomputable instance iFu : Cd Fu := ⟨fun _ x => .cls x.n, fun _ _ => rfl, fun _ _ => rfl, fun _ _ => rfl, fun _ _ => rfl⟩
noncomputable instance qFu : Fq Fu := ⟨fun _ _ => rfl⟩
noncomputable instance oFu : Ow Fu := ⟨fun _ => rfl⟩
noncomputable instance nFu : Nn Fu := ⟨fun _ _ => rfl⟩
noncomputable instance nfFu : Nf Fu := ⟨trivial⟩
noncomputable def tbn (tbl : List (Tx × Str)) : List (List Nat × Str) := tbl.map fun p => (nn p.1, p.2)
noncomputable def wgO (tbl : List (Tx × Str)) (s : Tx) : Option Fu := (tbl.find? fun p => decide (p.1 = s)).map fun p => Fu.mk p.2
theorem q_wg {o : Bool} (tbl : List (Tx × Str)) (s : Tx) : wgT (tbn tbl) (en o s) = (wgO tbl s).map (en true) := by
  show ((tbn tbl).lookup (nn s)).map T.cls = _
  unfold wgO tbn
  induction tbl with
  | nil => rfl
  | cons p l ih =>
    rw [List.map_cons, List.lookup_cons, List.find?_cons]
    by_cases h : p.1 = s
    · subst h; simp; rfl
    · have : (nn s == nn p.1) = false := beq_eq_false_iff_ne.mpr fun e => h (nn_inj.mp e).symm
      rw [this, decide_eq_false h]
      exact ih
noncomputable def dspK (os : List Opd) (e : Env) : Option (List T → Fr) → Rs T
  | some mf => callE mf os e
  | none => .bad
noncomputable def dspX (tbl : List (Str × (List T → Fr))) (os : List Opd) (e : Env) : Option T → Rs T
  | some (.cls n) => dspK os e (tbl.lookup n)
  | _ => .bad
theorem q_dspE (tbl : List (Str × (List T → Fr))) (i : Nat) (os : List Opd) (e : Env) : dspE tbl i os e = dspX tbl os e e[i]? := by
  unfold dspE dspX
  cases e[i]? with
  | none => rfl
  | some t =>
    cases t with
    | cls n => dsimp only; cases tbl.lookup n <;> rfl
    | _ => rfl
theorem q_dspX (tbl : List (Str × (List T → Fr))) (os : List Opd) (e : Env) (o : Bool) (d : Fu) : dspX tbl os e (some (en o d)) = dspK os e (tbl.lookup d.n) := rfl
theorem q_dspK (os : List Opd) (e : Env) (mf : List T → Fr) : dspK os e (some mf) = callE mf os e := rfl
end En
set_option maxRecDepth 100000
set_option maxHeartbeats 1000000
namespace En
open PySem PySem.Spec PyProof.Rows L2 Gk LamX NdefX
open Cd (en)
local macro_rules | `(tactic| walk_at "pm") => `(tactic| (simp only [List.perm_iff_count, List.count_append, List.count_cons, List.count_nil] at *; grind))
end En
set_option maxRecDepth 100000
set_option maxHeartbeats 1000000
namespace En
open PySem PySem.Spec PyProof.Rows RT
end En
namespace En
open PySem PySem.Spec PyProof.Rows L2 Gk RT
open Cd (en)
local macro_rules | `(tactic| walk_at "pm") => `(tactic| (simp only [List.perm_iff_count, List.count_append, List.count_cons, List.count_nil] at *; grind))
end En
set_option maxRecDepth 100000
set_option maxHeartbeats 1000000
namespace En
open PySem PySem.Spec PyProof.Rows L2 Gk
open Cd (en)
end En
set_option maxRecDepth 100000
set_option maxHeartbeats 1000000
namespace En
open PySem PySem.Spec PyProof.Rows L2 Gk
open Cd (en)
end En
set_option maxRecDepth 100000
set_option maxHeartbeats 1000000
namespace En
open PySem PySem.Spec PyProof.Rows L2 Gk LamX NdefX
local macro_rules | `(tactic| walk_at "pm") => `(tactic| (simp only [List.perm_iff_count, List.count_append, List.count_cons, List.count_nil] at *; grind))
open Cd (en)
end En
set_option maxRecDepth 100000
set_option maxHeartbeats 1000000
namespace En
open PySem PySem.Spec PyProof.Rows L2 Gk
open Cd (en)
end En
set_option maxRecDepth 100000
set_option maxHeartbeats 1000000
namespace En
open PySem PySem.Spec PyProof.Rows L2 Gk
local macro_rules | `(tactic| walk_at "pm") => `(tactic| (simp only [List.perm_iff_count, List.count_append, List.count_cons, List.count_nil] at *; grind))
open Cd (en)
end En
set_option maxRecDepth 100000
set_option maxHeartbeats 1000000
namespace En
open PySem PySem.Spec PyProof.Rows L2 Gk
open Cd (en)
section
variable {α β : Type} [Cd α] [Cd β]
theorem of_L [Fq α] (l : List α) (o : Bool) : (en o (l.map Uv.of) : T) = en o l := by
  show T.lst o _ = T.lst o _
  rw [List.map_map]
  congr 1
  exact List.map_congr_left fun a _ => by show en false a = en o a; rw [Fq.fq false, Fq.fq o]
/-- what a thing of the written kind is, told back -/
theorem asS_of (s : Tx) : asS (Uv.of s) = some s := by
  have e : ((nn s).map Char.ofNat) = s := by
    unfold nn
    rw [List.map_map]
    conv => rhs; rw [← List.map_id s]
    exact List.map_congr_left fun c _ => by simp [Function.comp]
  show (if nn ((nn s).map Char.ofNat) = nn s then some ((nn s).map Char.ofNat) else none) = some s
  rw [e, if_pos rfl]
end
end En
set_option maxRecDepth 100000
set_option maxHeartbeats 1000000
namespace En
open PySem PySem.Spec PyProof.Rows L2 Gk
open Cd (en)
end En
set_option maxRecDepth 100000
set_option maxHeartbeats 1000000
namespace En
open PySem PySem.Spec PyProof.Rows L2 Gk
open Cd (en)
theorem q_slV {α : Type} [Cd α] [Fq α] {o : Bool} (lo hi : Option Int) (l : Vt α) : slT lo hi (en o l) = some (en true (Vt.mk (cutA l.l lo hi))) := by
  have h := q_slL (o := true) lo hi l.l
  show some (T.tup (cutA (l.l.map (en o)) lo hi)) = some (T.tup ((cutA l.l lo hi).map (en true)))
  have h' : some (T.lst true (cutA (l.l.map (en true)) lo hi)) = some (T.lst true ((cutA l.l lo hi).map (en true))) := h
  rw [fq_map o]
  have h2 := Option.some.inj h'
  injection h2 with _ h3
  rw [h3]
end En
set_option maxRecDepth 100000
set_option maxHeartbeats 1000000
namespace En
open PySem PySem.Spec PyProof.Rows L2 Gk
open Cd (en)
end En
set_option maxRecDepth 100000
set_option maxHeartbeats 1000000
namespace En
open PySem PySem.Spec PyProof.Rows L2 Gk
open Cd (en)
local macro_rules | `(tactic| walk_at "pm") => `(tactic| (simp only [List.perm_iff_count, List.count_append, List.count_cons, List.count_nil] at *; grind))
end En
set_option maxRecDepth 100000
set_option maxHeartbeats 1000000
namespace En
open PySem PySem.Spec PyProof.Rows L2 Gk
open Cd (en)
variable {o p : Bool}
theorem q_eqRwS (i : Rw) (s : Tx) : eqT (en o i) (en p s) = some (en true (decide (i.l = nn s))) := by
  show (scalB (.str i.l) (.str (nn s))).map T.bl = some (T.bl _)
  rfl
theorem q_neRwS (i : Rw) (s : Tx) : neT (en o i) (en p s) = some (en true (!decide (i.l = nn s))) := by
  show (scalB (.str i.l) (.str (nn s))).map (fun k => T.bl (!k)) = some (T.bl _)
  rfl
end En
set_option maxRecDepth 100000
set_option maxHeartbeats 1000000
namespace En
open PySem PySem.Spec PyProof.Rows L2 Gk
open Cd (en)
theorem q_appXl {α : Type} [Cd α] [Fq α] {l r : List (Fz (List Uv))} {v : List α} (h : apO l (Fz.mk (v.map Uv.of)) = some r) : appF [en true l, en false v] = .ok (en true ()) [en true r] := by
  rw [← of_L v false]
  show appF [en true l, en false (v.map Uv.of)] = _
  rw [q_appZ, h]; rfl
end En
set_option maxRecDepth 100000
set_option maxHeartbeats 1000000
namespace En
open PySem PySem.Spec PyProof.Rows L2 Gk
open Cd (en)
local macro_rules | `(tactic| walk_at "pm") => `(tactic| (simp only [List.perm_iff_count, List.count_append, List.count_cons, List.count_nil] at *; grind))
/-- a name's thing, no longer known by its place -/
noncomputable def unlE (i : Nat) (e : Env) : Env := match e[i]? with
  | some t => e.set i t.un
  | none => e
noncomputable def unlR (i : Nat) : Rt → Rt
  | .nxt e => .nxt (unlE i e)
  | .ret t e => .ret t (unlE i e)
  | .brk e => .brk (unlE i e)
  | .cnt e => .cnt (unlE i e)
  | .exc C x e => .exc C x (unlE i e)
  | .bad => .bad
/-- statements that run while the place of a name's thing is known; what comes of them does not tell of it -/
noncomputable def labS (i : Nat) (ms : V → Sm) : Sm := fun e => match e[i]? with
  | some t => if t.isV = true then (open Classical in if h : ∃ r, ∀ v, unlR i (ms v (e.set i (.atv v t))) = r then Classical.choose h else .bad) else .bad
  | none => .bad
theorem labS_e {i : Nat} {ms : V → Sm} {e : Env} {t : T} {r : Rt} (h1 : e[i]? = some t) (h2 : t.isV = true) (h : ∀ v, unlR i (ms v (e.set i (.atv v t))) = r) : labS i ms e = r := by
  have hx : ∃ r, ∀ v, unlR i (ms v (e.set i (.atv v t))) = r := ⟨r, h⟩
  unfold labS
  rw [h1]; dsimp only
  rw [if_pos h2, dif_pos hx, ← Classical.choose_spec hx .non, h]
section
variable {G : Ct} {F F' H H' : Hp} {L L' L1 Lf : List Cell} {W : WX} {J : List Nat} {σ σ' : Sg} {D : Ends} {env : Env} {i : Nat} {X : Cx} {st : List Stmt}
theorem EnvR.unl (er : EnvR G F L σ env) : EnvR G F L σ (unlE i env) := by
  unfold unlE
  cases ht : env[i]? with
  | none => exact er
  | some t =>
    dsimp only
    obtain ⟨o, La, Lb, e1, pp, sl, put⟩ := er.get ht
    have sl2 : SlR G F La o t.un := by
      cases sl with
      | unb => exact .unb _
      | val tr => exact .val (un_tr tr)
      | exn tr q => exact .exn tr q
    have z := put F o La t.un same_refl sl2
    rw [set_self e1] at z
    exact z.perm pp.symm
theorem post_unl {r : Rt} (p : PostS G W J F Lf σ D (unlR i r)) : PostS G W J F Lf σ D r := by
  cases r with
  | nxt e => exact fun σ' H' F' La s sm er k => p σ' H' F' La s sm er.unl k
  | ret t e => exact fun v σ' H' F' La Lb s sm tr er k => p v σ' H' F' La Lb s sm tr er.unl k
  | brk e => exact fun σ' H' F' La s sm er k => p σ' H' F' La s sm er.unl k
  | cnt e => exact fun σ' H' F' La s sm er k => p σ' H' F' La s sm er.unl k
  | exc C x e => exact fun v d σ' H' F' La Lb s sm tr er k => p v d σ' H' F' La Lb s sm tr er.unl k
  | bad => exact p
theorem dss_lab {ms : V → Sm} (h : ∀ v, DSs G W J X st (ms v)) : DSs G W J X st (labS i ms) := ⟨fun pins s σ H D I q => by
  obtain ⟨F, L, Lf, env, sx, er, p⟩ := q
  unfold labS at p
  cases ht : env[i]? with
  | none => rw [ht] at p; exact p.elim
  | some t =>
    rw [ht] at p
    dsimp only at p
    by_cases hv : t.isV = true
    · rw [if_pos hv] at p
      by_cases hx : ∃ r, ∀ v, unlR i (ms v (env.set i (.atv v t))) = r
      · rw [dif_pos hx] at p
        obtain ⟨o, La, Lb, e1, pp, sl, put⟩ := er.get ht
        obtain ⟨v, rfl, tr⟩ := sl.tr hv
        have z := put F (some v) La (.atv v t) same_refl (.val (.atv tr (.refl _)))
        rw [set_self e1] at z
        refine (h v).run pins s σ H D I ⟨F, L, Lf, _, sx, z.perm pp.symm, ?_⟩
        rw [← Classical.choose_spec hx v] at p
        exact post_unl p
      · rw [dif_neg hx] at p; exact p.elim
    · rw [if_neg hv] at p; exact p.elim⟩
/-- a name's thing, known by its place: a pointer at it -/
noncomputable def ptE (i k : Nat) : M T := fun e => match e[i]? with
  | some (.atv v t) => if t.isV = true then .ok (.ptr k v) e else .bad
  | _ => .bad
section
variable {x : Expr}
theorem de_pt {k : Nat} (h : L2.PE X x (tVar i)) : DE G W X x (ptE i k) := h.imp fun σ H Q q => by
  obtain ⟨F, L, Lf, env, s, er, p⟩ := q
  unfold ptE at p
  cases ht : env[i]? with
  | none => rw [ht] at p; exact p.elim
  | some t =>
    rw [ht] at p
    cases t with
    | atv v t =>
      dsimp only at p
      by_cases hv : t.isV = true
      · rw [if_pos hv] at p
        obtain ⟨o, La, Lb, e1, pp, sl, put⟩ := er.get ht
        obtain ⟨w, rfl, tr⟩ := sl.tr rfl
        cases tr with
        | atv tr q => exact ⟨v, e1, p v H F [] L s same_refl (.ptr k (nobyt tr)) er⟩
      · rw [if_neg hv] at p; exact p.elim
    | _ => exact p.elim
end
/-- a change of a thing whose place is known -/
noncomputable def lbF (mf : List T → Fr) : List T → Fr
  | .atv v t :: r => match mf (t :: r) with
    | .ok a (o :: os) => .ok a (.atv v o :: os)
    | _ => .bad
  | _ => .bad
theorem does_lb {io : List Bool} {mf : List T → Fr} {B : List V → Hp → VK → XK → Prop} (hd : Does G (true :: io) mf B) : Does G (true :: io) (lbF mf) B := by
  rintro vs H Q E ⟨F, L, Lf, ts, s, tr, ln, p⟩
  cases tr with
  | nil => exact absurd ln.l (by simp)
  | @cons w ws t ts _ La Lb a b pp =>
    cases t with
    | atv v t =>
      cases a with
      | atv a q =>
        refine hd _ _ _ _ ⟨F, L, Lf, t :: ts, s, .cons (a.perm q.symm) b pp, ⟨by have := ln.l; simpa using this, ln.t⟩, ?_⟩
        unfold lbF at p
        dsimp only at p
        cases e : mf (t :: ts) with
        | bad => rw [e] at p; exact p
        | exc C x os => rw [e] at p; exact p.elim
        | ok x os =>
          rw [e] at p
          cases os with
          | nil => exact p.elim
          | cons o os =>
            intro r H' F' Lc Ld s' sm r1 r2
            cases r2 with
            | cons c d pq => exact p r H' F' Lc Ld s' sm r1 (.cons (.atv c (.refl _)) d pq)
    | _ => unfold lbF at p; exact p.elim
end
mutual
noncomputable def T.subP (k : Nat) (v : V) (u : T) : T → T
  | .ptr j w => open Classical in if j = k then (if w = v then u else .ptr j w) else .ptr j w
  | .lst o ts => .lst o (T.subPA k v u ts)
  | .tup ts => .tup (T.subPA k v u ts)
  | .dct o ks ts => .dct o ks (T.subPA k v u ts)
  | .ins o C ns ts => .ins o C ns (T.subPA k v u ts)
  | .atv w t => .atv w (T.subP k v u t)
  | t => t
noncomputable def T.subPA (k : Nat) (v : V) (u : T) : List T → List T
  | [] => []
  | t :: ts => T.subP k v u t :: T.subPA k v u ts
end
section
variable {K : PySem.W.Frag} {cn : Str → Addr} {F : Hp} {k : Nat} {v : V} {u : T}
mutual
theorem Tr.subP (hu : Tr K cn F [] v u) : ∀ {L : List Cell} {w : V} {t : T}, Tr K cn F L w t → Tr K cn F L w (T.subP k v u t)
  | _, _, _, .non => .non
  | _, _, _, .bl b => .bl b
  | _, _, _, .int i => .int i
  | _, _, _, .str s => .str s
  | _, _, _, .ty s => .ty s
  | _, _, _, .cls s => .cls s
  | _, w, _, .ptr j n => by
    unfold T.subP
    by_cases h1 : j = k
    · rw [if_pos h1]
      by_cases h2 : w = v
      · rw [if_pos h2, h2]; exact hu
      · rw [if_neg h2]; exact .ptr j n
    · rw [if_neg h1]; exact .ptr j n
  | _, _, _, .sq ns h => .sq ns h
  | _, _, _, .lstF h a => .lstF h (TrA.subP hu a)
  | _, _, _, .lstO a p => .lstO (TrA.subP hu a) p
  | _, _, _, .tup h a => .tup h (TrA.subP hu a)
  | _, _, _, .dctF h e a => .dctF h e (TrA.subP hu a)
  | _, _, _, .dctO e a p => .dctO e (TrA.subP hu a) p
  | _, _, _, .insF h e a => .insF h e (TrA.subP hu a)
  | _, _, _, .insO e a p => .insO e (TrA.subP hu a) p
  | _, _, _, .atv h p => .atv (Tr.subP hu h) p
theorem TrA.subP (hu : Tr K cn F [] v u) : ∀ {L : List Cell} {vs : List V} {ts : List T}, TrA K cn F L vs ts → TrA K cn F L vs (T.subPA k v u ts)
  | _, _, _, .nil => .nil
  | _, _, _, .cons h a p => .cons (Tr.subP hu h) (TrA.subP hu a) p
end
end
/-- pointers at names' things, followed -/
noncomputable def subI (e0 : Env) : List (Nat × Nat) → T → T
  | [], t => t
  | (i, k) :: r, t => match e0[i]? with
    | some (.atv v u) => subI e0 r (T.subP k v u t)
    | _ => subI e0 r t
theorem tr_subI {G : Ct} {F : Hp} {σ : Sg} {env : Env} (er : EnvR G F [] σ env) : ∀ {I : List (Nat × Nat)} {L : List Cell} {v : V} {t : T}, Tr G.K G.cn F L v t → Tr G.K G.cn F L v (subI env I t)
  | [], _, _, _, h => h
  | (i, k) :: r, _, _, t, h => by
    unfold subI
    cases ht : env[i]? with
    | none => exact tr_subI er h
    | some u =>
      cases u with
      | atv w u =>
        dsimp only
        obtain ⟨o, La, Lb, e1, pp, sl, put⟩ := er.get ht
        obtain ⟨w', rfl, tr⟩ := sl.tr rfl
        have hl : La = [] := (List.append_eq_nil_iff.mp (List.nil_perm.mp pp)).1
        subst hl
        cases tr with
        | atv tr q => exact tr_subI er (Tr.subP (tr.perm q.symm) h)
      | _ => exact tr_subI er h
end En
set_option maxRecDepth 100000
set_option maxHeartbeats 1000000
namespace En
open PySem PySem.Spec PyProof.Rows L2 Gk
open Cd (en)
noncomputable def kUn (i : Nat) (e : Env) : Option T → Env
  | some t => e.set i t.un
  | none => e
theorem q_unlE (i : Nat) (e : Env) : unlE i e = kUn i e e[i]? := by unfold unlE kUn; cases e[i]? <;> rfl
theorem q_kUn (i : Nat) (e : Env) (t : T) : kUn i e (some t) = e.set i t.un := rfl
theorem q_unN (i : Nat) (e : Env) : unlR i (.nxt e) = .nxt (unlE i e) := rfl
theorem q_unR (i : Nat) (t : T) (e : Env) : unlR i (.ret t e) = .ret t (unlE i e) := rfl
theorem q_unX (i : Nat) (C : Str) (t : T) (e : Env) : unlR i (.exc C t e) = .exc C t (unlE i e) := rfl
noncomputable def kPt (k : Nat) (e : Env) : Option T → Rs T
  | some (.atv v t) => if t.isV = true then .ok (.ptr k v) e else .bad
  | _ => .bad
theorem q_ptE (i k : Nat) (e : Env) : ptE i k e = kPt k e e[i]? := by
  unfold ptE kPt
  cases e[i]? with
  | none => rfl
  | some t => cases t <;> rfl
theorem q_kPt (k : Nat) (e : Env) (v : V) (t : T) : kPt k e (some (.atv v t)) = if t.isV = true then .ok (.ptr k v) e else .bad := rfl
theorem q_atvU (v : V) (t : T) : (T.atv v t).un = t.un := by rw [T.un]
theorem q_atvF (v : V) (t : T) : (T.atv v t).frz = .atv v t.frz := by rw [T.frz]
theorem q_atvR (v : V) (t : T) : (T.atv v t).fresh = t.fresh := by rw [T.fresh]
theorem q_atvV (v : V) (t : T) : (T.atv v t).isV = true := rfl
theorem q_atvE (v : V) (t : T) : (T.atv v t).isE = false := rfl
theorem q_ptrF (k : Nat) (v : V) : (T.ptr k v).frz = .ptr k v := rfl
theorem q_ptrR (k : Nat) (v : V) : (T.ptr k v).fresh = true := rfl
theorem q_ptrV (k : Nat) (v : V) : (T.ptr k v).isV = true := rfl
theorem q_ptrE (k : Nat) (v : V) : (T.ptr k v).isE = false := rfl
noncomputable def lbK (v : V) : Fr → Fr
  | .ok a (o :: os) => .ok a (.atv v o :: os)
  | _ => .bad
theorem q_lbF (mf : List T → Fr) (v : V) (t : T) (r : List T) : lbF mf (.atv v t :: r) = lbK v (mf (t :: r)) := by unfold lbF lbK; rfl
theorem q_lbK (v : V) (a o : T) (os : List T) : lbK v (.ok a (o :: os)) = .ok a (.atv v o :: os) := rfl
structure Lb (α : Type) where
  v : V
  x : α
/-- a pointer -/
structure Pv where
  k : Nat
  v : V
noncomputable instance iPv : Cd Pv := ⟨fun _ p => .ptr p.k p.v, fun _ _ => rfl, fun _ _ => rfl, fun _ _ => rfl, fun _ _ => rfl⟩
noncomputable instance : Fq Pv := ⟨fun _ _ => rfl⟩
noncomputable instance : Ow Pv := ⟨fun _ => rfl⟩
theorem q_pv (o : Bool) (p : Pv) : (en o p : T) = .ptr p.k p.v := rfl
/-- statements while a place is known, typed -/
noncomputable def labO {α : Type} (f : V → Option α) : Option α := open Classical in if h : ∃ r, ∀ v, f v = some r then some (Classical.choose h) else none
theorem labO_all {α : Type} {f : V → Option α} {out : α} (h : labO f = some out) : ∀ v, f v = some out := by
  unfold labO at h
  split at h
  · rename_i hx
    cases h
    exact Classical.choose_spec hx
  · cases h
theorem labO_ok {α : Type} {f : V → Option α} {r : α} (h : ∀ v, f v = some r) : labO f = some r := by
  have hx : ∃ r, ∀ v, f v = some r := ⟨r, h⟩
  unfold labO
  rw [dif_pos hx, ← Classical.choose_spec hx .non, h]
noncomputable def okY (t : T) : Bool := t.fresh && t.isV && !t.isE && unOk t
structure Yv where
  t : T
  h : okY t = true
theorem okY_and {t : T} (h : okY t = true) : t.fresh = true ∧ t.isV = true ∧ t.isE = false ∧ unOk t = true := by
  unfold okY at h
  simp only [Bool.and_eq_true, Bool.not_eq_true'] at h
  exact ⟨h.1.1.1, h.1.1.2, h.1.2, h.2⟩
theorem unOk_frz (t : T) : unOk t.frz = unOk t := by cases t <;> rfl
theorem isE_frz (t : T) : t.frz.isE = t.isE := by cases t <;> rfl
noncomputable def Yv.e (o : Bool) (y : Yv) : T := if o = true then y.t else y.t.frz
noncomputable instance iYv : Cd Yv := ⟨Yv.e, fun o y => by
    cases o
    · exact frz_isV.trans (okY_and y.h).2.1
    · exact (okY_and y.h).2.1, fun o y => by
    cases o
    · exact frz_frz _
    · rfl, fun o y => by
    cases o
    · exact un_self ((unOk_frz _).trans (okY_and y.h).2.2.2)
    · exact un_self (okY_and y.h).2.2.2, fun o y => by
    cases o
    · exact (isE_frz _).trans (okY_and y.h).2.2.1
    · exact (okY_and y.h).2.2.1⟩
noncomputable instance : Ow Yv := ⟨fun y => (okY_and y.h).1⟩
section
variable {α β : Type} [Cd α] [Cd β]
noncomputable def Yv.of [Ow α] (x : α) : Yv := ⟨en true x, by
  have h4 : unOk (en true x) = true := by rw [← Cd.un true x]; exact un_not _
  unfold okY
  rw [Ow.ow x, Cd.isV, Cd.noe, h4]; rfl⟩
theorem q_yof [Ow α] (o : Bool) (x : α) : (en o (Yv.of x) : T) = en o x := by
  cases o
  · exact Cd.frz true x
  · rfl
/-- what it is -/
noncomputable def yIs (n : String) (y : Yv) : Option Bool := isiB y.t (.ty n)
theorem tyT_frz (t : T) : tyT t.frz = tyT t := by cases t <;> rfl
theorem q_yIs {n : String} {u : Yv} {b : Bool} (h : yIs n u = some b) (o : Bool) : isiK n (tyT (en o u)) = some (en true b) := by
  rw [← isi_e]
  have e : isiT u.t (.ty n) = some (en true b) := by
    show (isiB u.t (.ty n)).map T.bl = _
    rw [show isiB u.t (.ty n) = some b from h]; rfl
  rw [isi_e] at e ⊢
  cases o
  · show isiK n (tyT u.t.frz) = _
    rw [tyT_frz]; exact e
  · exact e
/-- one thing more, where it is a list -/
noncomputable def apY [Ow β] (y : Yv) (x : β) : Option Yv := match y with
  | ⟨.lst true us, h⟩ => if us.length < lim then some ⟨.lst true (us ++ [en true x]), by
      have h1 := (okY_and h).1
      rw [fr_lst] at h1
      unfold okY
      rw [fr_lst, List.all_append, List.all_cons, List.all_nil, Ow.ow x]
      simp only [Bool.true_and, Bool.and_true] at h1 ⊢
      rw [h1]; rfl⟩ else none
  | _ => none
theorem q_apY [Ow β] {y r : Yv} {x : β} (h : apY y x = some r) : appF [en true y, en true x] = .ok (en true ()) [en true r] := by
  obtain ⟨t, ht⟩ := y
  unfold apY at h
  split at h
  · rename_i us hu e
    cases e
    split at h
    · rename_i hl
      cases h
      show (if us.length < lim then _ else _) = _
      rw [if_pos hl]; rfl
    · cases h
  · cases h
end
noncomputable def okF' (t : T) : Bool := t.fresh && okU t
/-- a thing without flags, or a pointer -/
structure Fv where
  t : T
  h : okF' t = true
theorem okF_and {t : T} (h : okF' t = true) : t.fresh = true ∧ okU t = true := by
  unfold okF' at h
  rw [Bool.and_eq_true] at h
  exact h
noncomputable instance iFv : Cd Fv := ⟨fun _ x => x.t, fun _ x => (okU_and (okF_and x.h).2).2.1, fun _ x => still_frz _ (okU_and (okF_and x.h).2).1, fun _ x => un_self (okU_and (okF_and x.h).2).2.2.2, fun _ x => (okU_and (okF_and x.h).2).2.2.1⟩
noncomputable instance : Fq Fv := ⟨fun _ _ => rfl⟩
noncomputable instance : Ow Fv := ⟨fun x => (okF_and x.h).1⟩
noncomputable def Fv.of {α : Type} [Cd α] [Fq α] [Ow α] (x : α) : Fv := ⟨en true x, by
  unfold okF'
  rw [Ow.ow x, ← Fq.fq false x, okU_en]; rfl⟩
theorem q_fof {α : Type} [Cd α] [Fq α] [Ow α] (o : Bool) (x : α) : (en o (Fv.of x) : T) = en true x := rfl
structure Ee where
  C : Str
  x : Fv
noncomputable def elimE {α β : Type} : Ee ⊕ α → (Ee → Option β) → (α → Option β) → Option β
  | .inl e, f, _ => f e
  | .inr a, _, g => g a
noncomputable def frX {α : Type} (enc : α → Fr) : Ee ⊕ α → Fr
  | .inl e => .exc e.C (en true e.x) []
  | .inr a => enc a
theorem q_frXl {α : Type} (enc : α → Fr) (e : Ee) : frX enc (.inl e) = .exc e.C (en true e.x) [] := rfl
theorem q_frXr {α : Type} (enc : α → Fr) (a : α) : frX enc (.inr a) = enc a := rfl
/-- the error is of just this class -/
noncomputable def chkC (e : Ee) (C : Str) : Option Unit := if e.C = C then some () else none
theorem chkC_e {e : Ee} {C : Str} {u : Unit} (h : chkC e C = some u) : e.C = C := by
  unfold chkC at h
  split at h
  · assumption
  · cases h
theorem q_chkA (v : V) (t : T) : chkL (.atv v t) = chkL t := by unfold chkL; rw [T.un]
theorem chkY {β : Type} [Cd β] [Ow β] {y r : Yv} {x : β} (h : apY y x = some r) : chkL (en true y) = true := by
  obtain ⟨t, ht⟩ := y
  unfold apY at h
  split at h
  · rename_i us hu e
    cases e; rfl
  · cases h
noncomputable def rpT (t : T) : Option Rw := match reprT t with
  | some (.str l) => some ⟨l⟩
  | _ => none
theorem q_rpT (t : T) : reprT t = (rpT t).map (en true) := by
  unfold rpT
  cases h : reprT t with
  | none => rfl
  | some u => obtain ⟨l, rfl⟩ := repr_str h; rfl
noncomputable def kSubI (k : Nat) (r : List (Nat × Nat)) (e : Env) (t : T) : Option T → T
  | some (.atv v u) => subI e r (T.subP k v u t)
  | _ => subI e r t
theorem q_subI0 (e : Env) (t : T) : subI e [] t = t := rfl
theorem q_subI1 (i k : Nat) (r : List (Nat × Nat)) (e : Env) (t : T) : subI e ((i, k) :: r) t = kSubI k r e t e[i]? := by
  unfold subI kSubI
  cases e[i]? with
  | none => rfl
  | some t => cases t <;> rfl
theorem q_kSubI (k : Nat) (r : List (Nat × Nat)) (e : Env) (v : V) (u t : T) : kSubI k r e t (some (.atv v u)) = subI e r (T.subP k v u t) := rfl
section
variable {α : Type} [Cd α] {k : Nat} {v : V} {u : T}
/-- what keeps its kind when pointers are followed -/
theorem sub_un {t : T} (hu : unOk u = true) (h : unOk t = true) : unOk (T.subP k v u t) = true := by
  cases t with
  | ptr j w =>
    unfold T.subP
    split
    · split
      · exact hu
      · rfl
    · rfl
  | atv w t => cases h
  | _ => first | rfl | (rw [T.subP]; rfl)
theorem q_unOkS {t : T} (hu : unOk u = true) (h : unOk t = true) : unOk (T.subP k v u t) = true := sub_un hu h
theorem q_unOkE (o : Bool) (x : α) : unOk (en o x) = true := by rw [← Cd.un o x]; exact un_not _
theorem q_subUn {t : T} (hu : unOk u = true) (h : unOk t = true) : (T.subP k v u t).un = T.subP k v u t := un_self (sub_un hu h)
theorem q_subV {t : T} (hu : u.isV = true) (h : t.isV = true) : (T.subP k v u t).isV = true := by
  cases t with
  | ptr j w =>
    unfold T.subP
    split
    · split
      · exact hu
      · rfl
    · rfl
  | unb => exact nomatch h
  | exn => exact nomatch h
  | _ => first | rfl | (rw [T.subP]; first | rfl | exact h)
mutual
theorem sub_frz : ∀ t : T, (T.subP k v u t).frz = T.subP k v u.frz t.frz
  | .ptr j w => by
    show (T.subP k v u (.ptr j w)).frz = T.subP k v u.frz (.ptr j w)
    unfold T.subP
    by_cases h1 : j = k
    · by_cases h2 : w = v
      · rw [if_pos h1, if_pos h2, if_pos h1, if_pos h2]
      · rw [if_pos h1, if_neg h2, if_pos h1, if_neg h2]; rfl
    · rw [if_neg h1, if_neg h1]; rfl
  | .lst o ts => by rw [T.subP, T.frz, T.frz, T.subP, subA_frz ts]
  | .tup ts => by rw [T.subP, T.frz, T.frz, T.subP, subA_frz ts]
  | .dct o ks ts => by rw [T.subP, T.frz, T.frz, T.subP, subA_frz ts]
  | .ins o C ns ts => by rw [T.subP, T.frz, T.frz, T.subP, subA_frz ts]
  | .atv w t => by rw [T.subP, T.frz, T.frz, T.subP, sub_frz t]
  | .unb => rfl | .non => rfl | .bl _ => rfl | .int _ => rfl | .str _ => rfl | .ty _ => rfl | .cls _ => rfl | .sq _ => rfl | .exn _ _ => rfl
theorem subA_frz : ∀ ts : List T, T.frzA (T.subPA k v u ts) = T.subPA k v u.frz (T.frzA ts)
  | [] => rfl
  | t :: ts => by rw [T.subPA, T.frzA, T.frzA, T.subPA, sub_frz t, subA_frz ts]
end
theorem q_subF (t : T) : (T.subP k v u t).frz = T.subP k v u.frz t.frz := sub_frz t
end
end En
set_option maxRecDepth 100000
set_option maxHeartbeats 1000000
namespace En
open PySem PySem.Spec PyProof.Rows L2 Gk
open Cd (en)
local macro_rules | `(tactic| walk_at "pm") => `(tactic| (simp only [List.perm_iff_count, List.count_append, List.count_cons, List.count_nil] at *; grind))
section
variable {α β γ : Type} [Cd α] [Cd β] [Cd γ]
theorem q_subVe {k : Nat} {v : V} {o p : Bool} (x : α) (y : β) : (T.subP k v (en o x) (en p y)).isV = true := q_subV (Cd.isV _ _) (Cd.isV _ _)
theorem q_subVf {k j : Nat} {v w : V} {o p r : Bool} (x : α) (y : β) (z : γ) : (T.subP k v (en o x) (T.subP j w (en p y) (en r z))).isV = true := q_subV (Cd.isV _ _) (q_subV (Cd.isV _ _) (Cd.isV _ _))
theorem q_subUe {k : Nat} {v : V} {o p : Bool} (x : α) (y : β) : (T.subP k v (en o x) (en p y)).un = T.subP k v (en o x) (en p y) := q_subUn (q_unOkE _ x) (q_unOkE _ y)
theorem q_subUf {k j : Nat} {v w : V} {o p r : Bool} (x : α) (y : β) (z : γ) : (T.subP k v (en o x) (T.subP j w (en p y) (en r z))).un = T.subP k v (en o x) (T.subP j w (en p y) (en r z)) := q_subUn (q_unOkE _ x) (sub_un (q_unOkE _ y) (q_unOkE _ z))
end
theorem q_unbU : T.unb.un = T.unb := rfl
theorem en_ly (l : List Yv) : (en true l : T) = T.lst true (l.map (en true)) := rfl
end En
set_option maxRecDepth 100000
set_option maxHeartbeats 1000000
namespace En
open PySem PySem.Spec PyProof.Rows L2 Gk
open Cd (en)
local macro_rules | `(tactic| walk_at "pm") => `(tactic| (simp only [List.perm_iff_count, List.count_append, List.count_cons, List.count_nil] at *; grind))
theorem q_slLv {α : Type} [Cd α] [Fq α] {o : Bool} (lo hi : Option Int) (x : Lv α) : slT lo hi (en o x) = some (en true (Lv.mk x.t (cutA x.l lo hi))) := by
  obtain ⟨t, l⟩ := x
  cases t with
  | true => exact q_slV lo hi ⟨l⟩
  | false => exact q_slL lo hi l
theorem y_addL {α : Type} [Cd α] [Ow α] [Fq α] {x : List α} {y r : List Yv} (h : catL (x.map Yv.of) y = some r) (o : Bool) : addT (en o x) (en true y) = some (en true r) := by
  unfold catL at h
  split at h
  · rename_i hl
    cases h
    show (if (x.map (en o)).length + (y.map (en true)).length ≤ lim then some (T.lst true (x.map (en o) ++ y.map (en true))) else none) = _
    rw [List.length_map] at hl
    rw [if_pos (by rw [List.length_map, List.length_map]; exact hl)]
    show some (T.lst true _) = some (T.lst true _)
    congr 2
    rw [List.map_append, List.map_map]
    congr 1
    exact List.map_congr_left fun a _ => by show en o a = en true (Yv.of a); rw [q_yof, Fq.fq o]
  · cases h
/-- the things of names, let stand -/
noncomputable def stI (K : List Nat) (I : List (Nat × Nat)) (t : T) (e : Env) : Option T := match takeS K e with
  | some (ts, _) => reprT (subI (putS K (T.frzA ts) (List.replicate e.length .unb)) I t)
  | none => none
noncomputable def rprK (K : List Nat) (I : List (Nat × Nat)) : AT → M T
  | .t t => fun e => match stI K I t e with
    | some r => .ok r e
    | none => .bad
  | _ => fun _ => .bad
noncomputable def rprE (K : List Nat) (I : List (Nat × Nat)) (o : Opd) : M T := rb (evO o) (rprK K I)
section
variable {G : Ct} {W : WX} {X : Cx} {σ : Sg} {H : Hp} {v : V}
theorem rpr_fin {K : List Nat} {I : List (Nat × Nat)} {io : Bool} {Q : VK} (h : rdK G (ROp G io) v (RV G) W (rprK K I) σ H Q) : gRepr G.K [v] H Q := by
  obtain ⟨F, L1, L, Lf, env, a, s, r, er, p⟩ := h
  cases a with
  | t t =>
    obtain ⟨hL, tr⟩ := r.1
    subst hL
    unfold rprK stI at p
    dsimp only at p
    cases e1 : takeS K env with
    | none => rw [e1] at p; exact p.elim
    | some pr =>
      obtain ⟨ts, v1⟩ := pr
      rw [e1] at p
      dsimp only at p
      obtain ⟨LK, L2, ws, q1, er1, trs, hw⟩ := er.take e1
      have s1 : Sx H (LK ++ ([] ++ (L2 ++ Lf))) F := s.perm (by walk_at "pm")
      have sF := s1.addC_same
      have trf : TrA G.K G.cn (addC F LK) [] ws (T.frzA ts) := (trs.mono sF).frz fun c hc => s1.addC_mem hc
      have ln : env.length = σ.length := er.len.symm
      have base : EnvR G (addC F LK) [] σ (List.replicate env.length .unb) := by rw [ln]; exact env_unb (er.tb.mono sF) σ
      obtain ⟨L3, D3, q3, er3⟩ := base.put trf hw
      have hl3 : L3 = [] := by
        have h : L3 = [] ∧ D3 = [] := by simpa using q3
        exact h.1
      subst hl3
      have tr2 : Tr G.K G.cn (addC F LK) [] v (subI (putS K (T.frzA ts) (List.replicate env.length .unb)) I t) := tr_subI er3 (tr.mono sF)
      generalize subI (putS K (T.frzA ts) (List.replicate env.length .unb)) I t = u at p tr2
      unfold reprT at p
      cases ed : u.data with
      | none => rw [ed] at p; exact p.elim
      | some d =>
        rw [ed] at p
        dsimp only at p
        by_cases hd : d.showable = true ∧ d.depth ≤ 40 ∧ d.shown.length ≤ sizeLine
        · rw [if_pos hd] at p
          refine ⟨v, d, rfl, dd_of u tr2 (hp1 (s1.stand)) ed, hd.1, hd.2.1, hd.2.2, ?_⟩
          exact p _ H F [] L (s.perm (M := [] ++ (L ++ Lf)) (by walk_at "pm")).right same_refl (.str d.shown.cps.toList) er
        · rw [if_neg hd] at p; exact p.elim
  | _ => exact p.elim
theorem de_rpr {a : Expr} {o : Opd} {p pos : Pos} (K : List Nat) (I : List (Nat × Nat)) (hc : CallR X (.builtin "repr") (gRepr G.K)) (ha : DO G W X a o) (hg : Gl X "repr") (hm : X.mg "repr" = none)
    (he : starEach (a :: []) X.env = (false, eval a X.env) :: starEach [] X.env := by rfl) (hpl : (backTo pos (starEach [] X.env)).any (·.1) = false := by rfl) :
    DE G W X (.Call (.Name "repr" p) [a] [] pos) (rprE K I o) :=
  (pe_callB hc hg hm (by decide +kernel) (pa_cons ha pa_nil he) (by decide) (by decide) he hpl).imp fun σ H Q q => rdG_mono (rd_start (R := ROp G o.isIo) q) fun v H1 q1 => rpr_fin q1
end
theorem rprE_e (K : List Nat) (I : List (Nat × Nat)) (o : Opd) (e : Env) : rprE K I o e = (evO o e).b (rprK K I) := rb_e _ _ _
theorem rprK_t {K : List Nat} {I : List (Nat × Nat)} {t r : T} {e : Env} (h : stI K I t e = some r) : rprK K I (.t t) e = .ok r e := by
  unfold rprK; dsimp only; rw [h]
theorem stI_e {K : List Nat} {I : List (Nat × Nat)} {t : T} {e e1 : Env} {ts : List T} {r : Option T} (h1 : takeS K e = some (ts, e1)) (h2 : reprT (subI (putS K (T.frzA ts) (List.replicate e.length .unb)) I t) = r) : stI K I t e = r := by
  unfold stI; rw [h1]; exact h2
end En
set_option maxRecDepth 100000
set_option maxHeartbeats 1000000
namespace En
open PySem PySem.Spec PyProof.Rows L2 Gk
open Cd (en)
local macro_rules | `(tactic| walk_at "pm") => `(tactic| (simp only [List.perm_iff_count, List.count_append, List.count_cons, List.count_nil] at *; grind))
noncomputable def DictM (K : PySem.W.Frag) (w : World) (mg : Str → Option Value) (x : Str) (tbl : List (List Nat × Str)) : Prop := ∃ D, mg x = some (.ref D) ∧ (∀ z, tbl.lookup z = none → KMiss K w D (tx z)) ∧ ∀ p ∈ tbl, KDct K w D (tx p.1) (.ref (cnOf mg p.2))
theorem DictM.c {K : PySem.W.Frag} {w : World} {mg : Str → Option Value} {x : Str} {tbl : List (List Nat × Str)} (h : DictM K w mg x tbl) : DictC K w mg x tbl := ⟨h.choose, h.choose_spec.1, h.choose_spec.2.2⟩
theorem miss_of {K : PySem.W.Frag} {w : World} {D : Addr} {es : Array DictEntry} {n : Nat} {P : Params} {ks : List Str} {x : Str} (dl : K.lookup D = some ⟨.type "dict", none, .dict es n, #[]⟩) (dh : es.toList.map He.keyOf = He.keysIn P ks) (hp : w.params = P)
    (low : (D == sysModules) = false) (hx : x ∉ ks) : KMiss K w D x := by
  have key : ∀ (l : List DictEntry) (ks : List Str), l.map He.keyOf = He.keysIn P ks → x ∉ ks → l.find? (fun e => e.key.isStr x) = none ∧ l.any (fun e => e.refKey) = false := by
    intro l
    induction l with
    | nil => intro ks _ _; exact ⟨rfl, rfl⟩
    | cons e l ih =>
      intro ks h hx
      cases ks with
      | nil => cases h
      | cons k ks =>
        have h1 : He.keyOf e = some (k, PyData.keyHash P k) := (List.cons.inj h).1
        have h2 : l.map He.keyOf = He.keysIn P ks := (List.cons.inj h).2
        obtain ⟨i1, i2⟩ := ih ks h2 fun z => hx (List.mem_cons_of_mem _ z)
        have hk : ∃ y t, e.key = .str y t ∧ y = k := by
          unfold He.keyOf at h1
          split at h1
          · rename_i y t ek
            exact ⟨y, t, ek, (Prod.mk.inj (Option.some.inj h1)).1⟩
          · cases h1
        obtain ⟨y, t, ek, rfl⟩ := hk
        have ne : (y == x) = false := beq_eq_false_iff_ne.mpr fun z => hx (z ▸ List.mem_cons_self)
        constructor
        · rw [List.find?_cons_of_neg, i1]
          rw [ek]
          show ¬ (y == x) = true
          rw [ne]; decide
        · rw [List.any_cons, i2]
          unfold DictEntry.refKey
          rw [ek]; rfl
  obtain ⟨k1, k2⟩ := key es.toList ks dh hx
  refine ⟨es, n, dl, hp ▸ He.keysLit_of dh, low, ?_⟩
  unfold PySem.W.nsIn
  rw [dl]
  dsimp only
  rw [k1]
  dsimp only
  rw [k2]; rfl
theorem miss_all {K : PySem.W.Frag} {w : World} {D : Addr} {es : Array DictEntry} {n : Nat} {P : Params} {ks : List Str} {tbl : List (List Nat × Str)} (dl : K.lookup D = some ⟨.type "dict", none, .dict es n, #[]⟩) (dh : es.toList.map He.keyOf = He.keysIn P ks) (hp : w.params = P)
    (low : (D == sysModules) = false) (hk : tbl.map (fun p => tx p.1) = ks) : ∀ z, tbl.lookup z = none → KMiss K w D (tx z) := fun z hz => miss_of dl dh hp low fun hm => by
  rw [← hk] at hm
  obtain ⟨p, hp, e⟩ := List.mem_map.mp hm
  have e1 : p.1 = z := tx_inj e
  have : ∀ l : List (List Nat × Str), p ∈ l → l.lookup z ≠ none := by
    intro l
    induction l with
    | nil => intro h; cases h
    | cons q l ih =>
      intro h
      rw [List.lookup_cons]
      by_cases hq : z = q.1
      · rw [show (z == q.1) = true from beq_iff_eq.mpr hq]; intro c; cases c
      · rw [show (z == q.1) = false from beq_eq_false_iff_ne.mpr hq]
        rcases List.mem_cons.mp h with r | r
        · exact absurd (by rw [← e1, r]) hq
        · exact ih r
  exact this tbl hp hz
noncomputable def keyOf : T → Option (List Nat)
  | .str s => some s
  | .atv _ (.str s) => some s
  | _ => none
noncomputable def tryKS (tbl : List (List Nat × Str)) (i : Nat) (ms : Sm) : Sm := fun e => match (e[i]?).bind keyOf with
  | some s => (match tbl.lookup s with
    | some n => .ret (.cls n) e
    | none => ms e)
  | none => .bad
section
variable {G : Ct} {W : WX} {J : List Nat} {X : Cx}
theorem key_v {F : Hp} {L : List Cell} {v : V} {t : T} {s : List Nat} (tr : Tr G.K G.cn F L v t) (e : keyOf t = some s) : v = vt s := by
  unfold keyOf at e
  split at e
  · cases e; cases tr; rfl
  · cases e
    cases tr with
    | atv tr q => cases tr; rfl
  · cases e
/-- raise X(e) from None, an error being handled -/
theorem ds_raiseH {a : Expr} {m : M T} {C B fI : Addr} {nb newId initId bq : String} {b cq cn Cn : Str} {tl : List Value} {p pos pos2 cpos : Pos} {j : Nat} (hC : G.cn Cn = C) (hot : L2H.HotC X) (tk : L2.Takes X W) (Tt : Tl nb newId initId tl) (N : NoC X.K X.mg C B fI newId initId bq b cq tl) (hm : X.mg cn = some (.ref C)) (hdp : X.A.depth + 1 < recursionLimit)
    (hb1 : (b == ("__debug__" : Str)) = false) (hb2 : ¬ b = "self") (hb3 : ¬ b = "found") (he : DE G W X a m) (hfl : fldX Cn = ("found" : Str)) (hg : Gl X cn) (hdb : (cn == ("__debug__" : Str)) = false)
    (hs : starEach (a :: []) X.env = (false, eval a X.env) :: starEach [] X.env) (hpl : (backTo pos (starEach [] X.env)).any (·.1) = false) :
    DS G W J X (.Raise (some (.Call (.Name cn p) [a] [] pos)) (some (.Constant .none j cpos)) pos2) (raiseS Cn m) := (L2H.ps_raiseHN hot tk (pmk_no5 Tt N hm hdp hb1 hb2 hb3 (pa_cons he pa_nil hs) hg hdb hs hpl)).imp fun D σ H q => by
  subst hC
  obtain ⟨F, L, Lf, env, s, er, q⟩ := q
  refine ⟨F, L, Lf, env, s, er, ?_⟩
  unfold raiseS ofE at q
  cases e : m env with
  | ok t e' =>
    rw [e] at q
    intro v H' F' La Lb s' sm r er'
    exact ⟨v, rfl, fun d hd => q v d σ _ F' La Lb (by have z := s'.new hd (xdO Cn v); unfold xdO at z ⊢; rw [hfl] at z ⊢; exact z) sm r er' .refl⟩
  | exc C x e' => rw [e] at q; exact fun v d H' F' La Lb s' sm r er' => q v d σ H' F' La Lb s' sm r er' .refl
  | bad => rw [e] at q; exact q
theorem ds_tryK {d kx : Str} {tbl : List (List Nat × Str)} {i : Nat} {st0 : Stmt} {ms : Sm} {p p2 p3 rp np hp pos : Pos} (hst : X.stack = X.env :: X.outer) (hf : X.env.frame = some X.env.locals)
    (hpa : ∀ hd : Option Value, PassesOwnAt (model X.prog X.w) (X.A.mark hd) X.A X.env X.xe) (tk : L2.Takes X W) (hc : X.calm = true)
    (hD : DictM X.K X.w X.mg d tbl) (hcn : G.cn = cnOf X.mg) (hk : ∀ (pn : List (Addr × Obj)) (xe : Value → Shared → Prop), L2.PE (X.tr pn xe) (.Name kx p2) (tVar i)) (hs : PlainIx (.Name kx p2))
    (hg : Gl X d) (hd : (d == ("__debug__" : Str)) = false) (hgK : Gl X "KeyError") (hmK : X.mg "KeyError" = none)
    (hh : ∀ (a : Addr) (oe : Obj) (pn : List (Addr × Obj)), L2.Takes (L2H.suiteX X a ((a, oe) :: pn)) W → L2H.HotC (L2H.suiteX X a ((a, oe) :: pn)) → DS G W J (L2H.suiteX X a ((a, oe) :: pn)) st0 ms) :
    DS G W J X (.Try [.Return (some (.Subscript (.Name d p) (.Name kx p2) p3)) rp] [.ExceptHandler (some (.Name "KeyError" np)) none [st0] hp] [] [] pos) (tryKS tbl i ms) := by
  obtain ⟨D0, hm, hout, hin⟩ := hD
  refine (L2H.ps_try_onlyX (Wout := W) (c := .type "KeyError") (ts := fun _ _ _ => rdS G W J ms) (tb := fun W' => tRet (tIxDX X.K X.w W' (fun σ H Q => Q (.ref D0) H) (tVar i))) hst hf (names_blt hgK hmK boot_KeyError) hpa tk
    (fun W' pn xe t1 _ _ => pss_one (ps_ret (L2H.pe_ixDXN (X := X.tr pn xe) hc t1 (pe_glob (v := .ref D0) (u := .ref D0) hg hm rfl hd) (hk pn xe) hs)))
    (fun a oe cls dd pn _ _ t2 hot => pss_one (hh a oe pn t2 hot))).imp fun D σ H q => ?_
  obtain ⟨F, L, Lf, env, s, er, pp⟩ := q
  unfold tryKS at pp
  cases ht : env[i]? with
  | none => rw [ht] at pp; exact pp.elim
  | some t =>
    rw [ht] at pp
    obtain ⟨o, La, Lb, e1, pq, sl, _⟩ := er.get ht
    cases ek : keyOf t with
    | none => rw [Option.bind_some, ek] at pp; exact pp.elim
    | some z =>
      rw [Option.bind_some, ek] at pp
      dsimp only at pp
      have hv : t.isV = true := by
        unfold keyOf at ek
        split at ek
        · rfl
        · rfl
        · cases ek
      obtain ⟨v, rfl, tr⟩ := sl.tr hv
      have ev := key_v tr ek
      show ∃ v, _ ∧ _
      refine ⟨v, e1, D0, tx z, rfl, ev, ?_⟩
      cases el : tbl.lookup z with
      | some n =>
        rw [el] at pp
        refine .inl ⟨_, hin _ (look_in el), ?_⟩
        rw [← hcn]
        exact pp (.ref (G.cn n)) σ H F [] L s same_refl (.cls n) er .refl
      | none =>
        rw [el] at pp
        refine .inr ⟨hout z el, fun d' => ⟨true, exm_KE, fun _ a ha => ⟨F, L, Lf, env, s, er, pp⟩, fun q => nomatch q⟩⟩
end
theorem dp2 {k d : Nat} {A : Around} (h : Rm k A) (e : d = A.depth := by rfl) : d + 1 < recursionLimit := by have := h.r.dp; omega
noncomputable def kTL (ms : Sm) (e : Env) : Option Str → Rt
  | some n => .ret (.cls n) e
  | none => ms e
noncomputable def kTK (tbl : List (List Nat × Str)) (ms : Sm) (e : Env) : Option (List Nat) → Rt
  | some s => kTL ms e (tbl.lookup s)
  | none => .bad
noncomputable def kTI (tbl : List (List Nat × Str)) (ms : Sm) (e : Env) : Option T → Rt
  | some t => kTK tbl ms e (keyOf t)
  | none => .bad
theorem tryKS_e (tbl : List (List Nat × Str)) (i : Nat) (ms : Sm) (e : Env) : tryKS tbl i ms e = kTI tbl ms e e[i]? := by
  unfold tryKS kTI
  cases e[i]? with
  | none => rfl
  | some t =>
    rw [Option.bind_some]
    dsimp only
    unfold kTK
    cases keyOf t with
    | none => rfl
    | some s => dsimp only; unfold kTL; cases tbl.lookup s <;> rfl
theorem q_kTI (tbl : List (List Nat × Str)) (ms : Sm) (e : Env) (t : T) : kTI tbl ms e (some t) = kTK tbl ms e (keyOf t) := rfl
theorem q_kTK (tbl : List (List Nat × Str)) (ms : Sm) (e : Env) (s : List Nat) : kTK tbl ms e (some s) = kTL ms e (tbl.lookup s) := rfl
theorem q_kTLs (ms : Sm) (e : Env) (f : Fu) : kTL ms e (some f.n) = .ret (en true f) e := rfl
theorem q_kTLn (ms : Sm) (e : Env) : kTL ms e none = ms e := rfl
theorem q_keyO {o : Bool} (s : Tx) : keyOf (en o s) = some (nn s) := rfl
theorem q_keyA {o : Bool} (v : V) (s : Tx) : keyOf (.atv v (en o s)) = some (nn s) := rfl
theorem lk_s {tbl : List (Tx × Str)} {s : Tx} {f : Fu} (h : wgO tbl s = some f) : (tbn tbl).lookup (nn s) = some f.n := by
  have z : ((tbn tbl).lookup (nn s)).map T.cls = (wgO tbl s).map (en true) := q_wg (o := true) tbl s
  rw [h] at z
  cases hl : (tbn tbl).lookup (nn s) with
  | none => rw [hl] at z; cases z
  | some n => rw [hl] at z; exact congrArg some (T.cls.inj (Option.some.inj z))
theorem lk_n {tbl : List (Tx × Str)} {s : Tx} (h : wgO tbl s = none) : (tbn tbl).lookup (nn s) = none := by
  have z : ((tbn tbl).lookup (nn s)).map T.cls = (wgO tbl s).map (en true) := q_wg (o := true) tbl s
  rw [h] at z
  cases hl : (tbn tbl).lookup (nn s) with
  | none => rfl
  | some n => rw [hl] at z; cases z
end En
set_option maxHeartbeats 4000000
namespace En.Z
open PySem PySem.Spec PyProof.Rows L2 Gk
open Cd (en)
noncomputable def c_full : Tx := ['f', 'u', 'l', 'l']
noncomputable def c_initials : Tx := ['i', 'n', 'i', 't', 'i', 'a', 'l', 's']
noncomputable def c_first : Tx := ['f', 'i', 'r', 's', 't']
noncomputable def c_last : Tx := ['l', 'a', 's', 't']
noncomputable def c_bare : Tx := ['b', 'a', 'r', 'e']
noncomputable def c_high : Tx := ['h', 'i', 'g', 'h']
noncomputable def cSmall : Tx := ['a', 'b', 'c', 'd', 'e', 'f', 'g', 'h', 'i', 'j', 'k', 'l', 'm', 'n', 'o', 'p', 'q', 'r', 's', 't', 'u', 'v', 'w', 'x', 'y', 'z']
noncomputable def cCaps : Tx := ['A', 'B', 'C', 'D', 'E', 'F', 'G', 'H', 'I', 'J', 'K', 'L', 'M', 'N', 'O', 'P', 'Q', 'R', 'S', 'T', 'U', 'V', 'W', 'X', 'Y', 'Z']
noncomputable def cMarks : Tx := ['\'', '`', '^', '~', ':']
noncomputable def c_any : Tx := ['a', 'n', 'y']
noncomputable def c_more : Tx := ['m', 'o', 'r', 'e']
noncomputable def mds_MODES : List (Tx × Str) := [(c_full, "in_full"), (c_initials, "as_initials"), (c_first, "first_alone"), (c_last, "last_alone"), (c_bare, "as_bare"), (c_high, "in_capitals")]
noncomputable def subX : Str → Str → Option Bool := fun C D =>
  if C = "NoWord" then (if D = "CustomsError" then some true else if D = "Unknown" then some false else if D = "NoMode" then some false else none) else
  if C = "NoMode" then (if D = "CustomsError" then some false else if D = "Unknown" then some true else if D = "NoMode" then some true else none) else
  none
theorem sx_NoWord_CustomsError : subX "NoWord" "CustomsError" = some true := by decide +kernel
theorem sx_NoWord_Unknown : subX "NoWord" "Unknown" = some false := by decide +kernel
theorem sx_NoWord_NoMode : subX "NoWord" "NoMode" = some false := by decide +kernel
theorem sx_NoMode_CustomsError : subX "NoMode" "CustomsError" = some false := by decide +kernel
theorem sx_NoMode_Unknown : subX "NoMode" "Unknown" = some true := by decide +kernel
theorem sx_NoMode_NoMode : subX "NoMode" "NoMode" = some true := by decide +kernel
noncomputable def m_mode_of_m : Sm := (seqS (ifS (notM (truE (callE (f2 isiT) [(.sl 0), (.val (rp (.ty "str")))]))) (raiseS "NoMode" (cpE 0)) skipS)
    (noXS (retS (callE1 (f1 (wgT (tbn mds_MODES))) (.sl 0)))))
noncomputable def m_mode_of : List T → Fr := mkF 1 [false] m_mode_of_m
noncomputable def m_l_cell_m : Sm := (seqS (ifS (tstB (callE2 (f2 ltT) (.sl 1) (.val (callE (f1 lenT) [(.sl 0)])))) (retS (callE2 (f2 ixT) (.sl 0) (.sl 1))) skipS)
    (retS (callE2 (f2 addT) (.val (callE2 (f2 mulT) (.val (rp (.int 334214459))) (.sl 1))) (.val (rp (.int 131))))))
noncomputable def m_l_cell : List T → Fr := mkF 2 [false, false] m_l_cell_m
noncomputable def m_l_box_d1 : List T → Fr := lstF'
noncomputable def m_l_box_m : Sm := (retS (callE m_l_box_d1 [(.own (callE (f2 maxT) [(.val (rp (.int 0))), (.val (callE2 (f2 subT) (.sl 0) (.val (callE2 (f2 powT) (.val (rp (.int 10))) (.val (rp (.int 18)))))))])), (.own (callE2 (f2 modT) (.sl 0) (.val (rp (.int 2147483629))))), (.own (rp (.int 0)))]))
noncomputable def m_l_box : List T → Fr := mkF 1 [false] m_l_box_m
noncomputable def m_l_take_m : Sm := (seqS (ifS (tstB (callE2 (f2 gtT) (.val (callE2 (f2 ixT) (.sl 0) (.val (rp (.int 0))))) (.val (rp (.int 0))))) (seqS (asgS (tgN 3) (callE2 (f2 modT) (.val (callE2 (f2 ixT) (.sl 0) (.val (rp (.int 0))))) (.sl 1)))
    (seqS (setS3 setF (.own (callE2 (f2 divT) (.val (callE2 (f2 ixT) (.sl 0) (.val (rp (.int 0))))) (.sl 1))) (.io 0) (.val (rp (.int 0))))
    (retS (mvE 3)))) skipS)
    (seqS (setS3 setF (.own (callE2 (f2 addT) (.val (callE2 (f2 ixT) (.sl 0) (.val (rp (.int 2))))) (.val (rp (.int 1))))) (.io 0) (.val (rp (.int 2))))
    (seqS (asgS (tgN 2) (callE2 (f2 modT) (.val (callE2 (f2 powT) (.val (callE2 (f2 addT) (.val (callE2 (f2 addT) (.val (callE2 (f2 ixT) (.sl 0) (.val (rp (.int 1))))) (.val (callE2 (f2 mulT) (.val (rp (.int 6217))) (.val (callE2 (f2 ixT) (.sl 0) (.val (rp (.int 2))))))))) (.val (rp (.int 131))))) (.val (rp (.int 5))))) (.val (rp (.int 2147483647)))))
    (seqS (asgS (tgN 2) (callE2 (f2 modT) (.val (callE2 (f2 powT) (.val (callE2 (f2 addT) (.sl 2) (.val (callE2 (f2 mulT) (.val (rp (.int 92862))) (.val (callE2 (f2 ixT) (.sl 0) (.val (rp (.int 2))))))))) (.val (rp (.int 3))))) (.val (rp (.int 2147483587)))))
    (retS (callE2 (f2 modT) (.val (callE2 (f2 divT) (.sl 2) (.val (rp (.int 16))))) (.sl 1)))))))
noncomputable def m_l_take : List T → Fr := mkF 4 [true, false] m_l_take_m
noncomputable def m_l_drawn_d1 : List T → Fr := lstF'
noncomputable def m_l_drawn_d3 : List T → Fr := lstF'
noncomputable def m_l_drawn_x4 : M T := (ifE (tstB (callE2 (f2 eqT) (.sl 4) (.val (rp (.int 0))))) (methE chkS (f1 upperT) (.sl 5) []) (cpE 5))
noncomputable def m_l_drawn_b2 : Sm := (nrmS [3, 4, 5, 6] [] [] [] [] [] (seqS (asgS (tgN 4) (callE m_l_take [(.io 0), (.val (rp (.int 3)))]))
    (seqS (asgS (tgN 5) (callE2 (f2 ixT) (.sl 1) (.val (callE m_l_take [(.io 0), (.val (rp (.int 26)))]))))
    (seqS (asgS (tgN 6) (callE2 (f2 ixT) (.val (callE m_l_drawn_d3 [(.own (rp (.str (nn ([] : Tx))))), (.own (rp (.str (nn ([] : Tx))))), (.own (rp (.str (nn (['\''] : Tx))))), (.own (rp (.str (nn (['`'] : Tx))))), (.own (rp (.str (nn (['^'] : Tx))))), (.own (rp (.str (nn (['~'] : Tx))))), (.own (rp (.str (nn ([':'] : Tx)))))])) (.val (callE m_l_take [(.io 0), (.val (rp (.int 7)))]))))
    (exprS (methE chkL appF (.io 2) [(.own (callE2 (f2 addT) (.val m_l_drawn_x4) (.sl 6)))]))))))
noncomputable def m_l_drawn_l2 : Sm := (seqS (nrmP [3, 4, 5, 6] []) (forE (tgN 3) (rngE1 [(.val (callE2 (f2 addT) (.val (rp (.int 1))) (.val (callE m_l_take [(.io 0), (.val (rp (.int 8)))]))))]) m_l_drawn_b2))
noncomputable def m_l_drawn_m : Sm := (seqS (asgS (tgN 1) (rp (.str (nn cSmall))))
    (seqS (asgS (tgN 2) (callE m_l_drawn_d1 []))
    (seqS m_l_drawn_l2
    (retS (mvE 2)))))
noncomputable def m_l_drawn : List T → Fr := mkF 7 [true] m_l_drawn_m
noncomputable def m_in_full_m : Sm := (retS (callE (f1 listT) [(.sl 0)]))
noncomputable def m_in_full : List T → Fr := mkF 1 [false] m_in_full_m
noncomputable def m_letters_in_d1 : List T → Fr := lstF'
noncomputable def m_letters_in_x3 : M Bool := (ifE (tstB (callE2 (f2 inT) (.sl 2) (.val (rp (.str (nn cSmall)))))) (rp true) (tstB (callE2 (f2 inT) (.sl 2) (.val (rp (.str (nn cCaps)))))))
noncomputable def m_letters_in_d5 : List T → Fr := lstF'
noncomputable def m_letters_in_x4 : M Bool := (ifE (tstB (callE2 (f2 inT) (.sl 2) (.val (rp (.str (nn cMarks)))))) (ifE (tstB (callE2 (f2 neT) (.sl 1) (.val (callE m_letters_in_d5 [])))) (tstB (callE2 (f2 eqT) (.val (callE (f1 lenT) [(.val (callE2 (f2 ixT) (.sl 1) (.val (callE1 (f1 negT) (.val (rp (.int 1)))))))])) (.val (rp (.int 1))))) (rp false)) (rp false))
noncomputable def m_letters_in_b2 : Sm := (nrmS [2] [] [2] [] [0, 1, 2] [] (ifS m_letters_in_x3 (exprS (methE chkL appF (.io 1) [(.own (mvE 2))])) (seqS (ifS m_letters_in_x4 (setS3 setF (.own (callE2 (f2 addT) (.val (callE2 (f2 ixT) (.sl 1) (.val (callE1 (f1 negT) (.val (rp (.int 1))))))) (.sl 2))) (.io 1) (.val (callE1 (f1 negT) (.val (rp (.int 1)))))) (retS (rp .non)))
    skipS)))
noncomputable def m_letters_in_l2 : Sm := (seqS (nrmP [2] []) (forE (tgN 2) (itE (cpE 0)) m_letters_in_b2))
noncomputable def m_letters_in_m : Sm := (seqS (asgS (tgN 1) (callE m_letters_in_d1 []))
    (seqS m_letters_in_l2
    (retS (mvE 1))))
noncomputable def m_letters_in : List T → Fr := mkF 3 [false] m_letters_in_m
noncomputable def m_is_word_x2 : M T := (chainE (f2 leT) (f2 leT) (.val (rp (.int 1))) (.val (callE (f1 lenT) [(.sl 0)])) (.val (callE2 (f2 mulT) (.val (rp (.int 2))) (.val (rp (.int 8))))))
noncomputable def m_is_word_x1 : M Bool := (ifE (notM (truE (callE (f2 isiT) [(.sl 0), (.val (rp (.ty "str")))]))) (rp true) (notM (tstB m_is_word_x2)))
noncomputable def m_is_word_x3 : M T := (andE (callE2 (f2 isnT) (.sl 1) (.val (rp .non))) (callE2 (f2 leT) (.val (callE (f1 lenT) [(.sl 1)])) (.val (rp (.int 8)))))
noncomputable def m_is_word_m : Sm := (seqS (ifS m_is_word_x1 (retS (rp (.bl false))) skipS)
    (seqS (asgS (tgN 1) (callE m_letters_in [(.sl 0)]))
    (retS m_is_word_x3)))
noncomputable def m_is_word : List T → Fr := mkF 2 [false] m_is_word_m
noncomputable def m_letters_of_x1 : M T := (ifE (truE (callE m_is_word [(.sl 0)])) (callE m_letters_in [(.sl 0)]) (rp .non))
noncomputable def m_letters_of_m : Sm := (seqS (asgS (tgN 1) m_letters_of_x1)
    (seqS (ifS (tstB (callE2 (f2 isT) (.sl 1) (.val (rp .non)))) (raiseS "NoWord" (cpE 0)) skipS)
    (retS (mvE 1))))
noncomputable def m_letters_of : List T → Fr := mkF 2 [false] m_letters_of_m
noncomputable def m_as_initials_y3 : M T := (callE2 (f2 addT) (.val (callE2 (f2 ixT) (.val (callE m_letters_of [(.sl 1)])) (.val (rp (.int 0))))) (.val (rp (.str (nn (['.'] : Tx))))))
noncomputable def m_as_initials_z3 : M Bool := (rp true)
noncomputable def m_as_initials_c1 : M T := (lcE [1] (tgN 1) (itE (mvE 0)) m_as_initials_z3 m_as_initials_y3)
noncomputable def m_as_initials_m : Sm := (retS m_as_initials_c1)
noncomputable def m_as_initials : List T → Fr := mkF 2 [false] m_as_initials_m
noncomputable def m_first_alone_m : Sm := (retS (callE (f1 listT) [(.val (slE (fun l h => f1 (slT l h)) (.sl 0) none (some (rp (.int 1)))))]))
noncomputable def m_first_alone : List T → Fr := mkF 1 [false] m_first_alone_m
noncomputable def m_last_alone_m : Sm := (retS (callE (f1 listT) [(.val (slE (fun l h => f1 (slT l h)) (.sl 0) (some (callE1 (f1 negT) (.val (rp (.int 1))))) none))]))
noncomputable def m_last_alone : List T → Fr := mkF 1 [false] m_last_alone_m
noncomputable def m_bare_y3 : M T := (callE2 (f2 ixT) (.sl 1) (.val (rp (.int 0))))
noncomputable def m_bare_z3 : M Bool := (rp true)
noncomputable def m_bare_c1 : M T := (lcE [1] (tgN 1) (itE (callE m_letters_of [(.sl 0)])) m_bare_z3 m_bare_y3)
noncomputable def m_bare_m : Sm := (retS (methE chkS (f2 joinT) (.val (rp (.str (nn ([] : Tx))))) [(.val m_bare_c1)]))
noncomputable def m_bare : List T → Fr := mkF 2 [false] m_bare_m
noncomputable def m_as_bare_y3 : M T := (callE m_bare [(.sl 1)])
noncomputable def m_as_bare_z3 : M Bool := (rp true)
noncomputable def m_as_bare_c1 : M T := (lcE [1] (tgN 1) (itE (mvE 0)) m_as_bare_z3 m_as_bare_y3)
noncomputable def m_as_bare_m : Sm := (retS m_as_bare_c1)
noncomputable def m_as_bare : List T → Fr := mkF 2 [false] m_as_bare_m
noncomputable def m_in_capitals_y3 : M T := (methE chkS (f1 upperT) (.sl 1) [])
noncomputable def m_in_capitals_z3 : M Bool := (rp true)
noncomputable def m_in_capitals_c1 : M T := (lcE [1] (tgN 1) (itE (mvE 0)) m_in_capitals_z3 m_in_capitals_y3)
noncomputable def m_in_capitals_m : Sm := (retS m_in_capitals_c1)
noncomputable def m_in_capitals : List T → Fr := mkF 2 [false] m_in_capitals_m
noncomputable def m_l_due_y3 : M T := (callE2 (f2 addT) (.val (callE2 (f2 ixT) (.sl 3) (.val (rp (.int 0))))) (.val (rp (.str (nn (['.'] : Tx))))))
noncomputable def m_l_due_z3 : M Bool := (rp true)
noncomputable def m_l_due_c1 : M T := (lcE [3] (tgN 3) (itE (mvE 1)) m_l_due_z3 m_l_due_y3)
noncomputable def m_l_due_y7 : M T := (callE2 (f2 ixT) (.sl 5) (.val (rp (.int 0))))
noncomputable def m_l_due_z7 : M Bool := (rp true)
noncomputable def m_l_due_c5 : M T := (lcE [5] (tgN 5) (itE (mvE 3)) m_l_due_z7 m_l_due_y7)
noncomputable def m_l_due_y9 : M T := (methE chkS (f2 joinT) (.val (rp (.str (nn ([] : Tx))))) [(.val m_l_due_c5)])
noncomputable def m_l_due_z9 : M Bool := (rp true)
noncomputable def m_l_due_c4 : M T := (lcE [3] (tgN 3) (itE (mvE 1)) m_l_due_z9 m_l_due_y9)
noncomputable def m_l_due_y13 : M T := (methE chkS (f1 upperT) (.sl 5) [])
noncomputable def m_l_due_z13 : M Bool := (rp true)
noncomputable def m_l_due_c11 : M T := (lcE [5] (tgN 5) (itE (mvE 3)) m_l_due_z13 m_l_due_y13)
noncomputable def m_l_due_y15 : M T := (methE chkS (f2 joinT) (.val (rp (.str (nn ([] : Tx))))) [(.val m_l_due_c11)])
noncomputable def m_l_due_z15 : M Bool := (rp true)
noncomputable def m_l_due_c10 : M T := (lcE [3] (tgN 3) (itE (mvE 1)) m_l_due_z15 m_l_due_y15)
noncomputable def m_l_due_y18 : M T := (methE chkS (f2 joinT) (.val (rp (.str (nn ([] : Tx))))) [(.sl 3)])
noncomputable def m_l_due_z18 : M Bool := (rp true)
noncomputable def m_l_due_c16 : M T := (lcE [3] (tgN 3) (itE (mvE 1)) m_l_due_z18 m_l_due_y18)
noncomputable def m_l_due_y21 : M T := (callE2 (f2 ixT) (.sl 2) (.sl 4))
noncomputable def m_l_due_z21 : M Bool := (tstB (callE2 (f2 eqT) (.sl 4) (.val (rp (.int 0)))))
noncomputable def m_l_due_c19 : M T := (lcE [4] (tgN 4) (rngE1 [(.val (callE (f1 lenT) [(.sl 2)]))]) m_l_due_z21 m_l_due_y21)
noncomputable def m_l_due_y24 : M T := (callE2 (f2 ixT) (.sl 2) (.sl 4))
noncomputable def m_l_due_z24 : M Bool := (tstB (callE2 (f2 eqT) (.sl 4) (.val (callE2 (f2 subT) (.val (callE (f1 lenT) [(.sl 2)])) (.val (rp (.int 1)))))))
noncomputable def m_l_due_c22 : M T := (lcE [4] (tgN 4) (rngE1 [(.val (callE (f1 lenT) [(.sl 2)]))]) m_l_due_z24 m_l_due_y24)
noncomputable def m_l_due_m : Sm := (seqS (ifS (tstB (callE2 (f2 eqT) (.sl 0) (.val (rp (.str (nn c_initials)))))) (retS m_l_due_c1) skipS)
    (seqS (ifS (tstB (callE2 (f2 eqT) (.sl 0) (.val (rp (.str (nn c_bare)))))) (retS m_l_due_c4) skipS)
    (seqS (ifS (tstB (callE2 (f2 eqT) (.sl 0) (.val (rp (.str (nn c_high)))))) (retS m_l_due_c10) skipS)
    (seqS (asgS (tgN 2) m_l_due_c16)
    (seqS (ifS (tstB (callE2 (f2 eqT) (.sl 0) (.val (rp (.str (nn c_first)))))) (retS m_l_due_c19) skipS)
    (seqS (ifS (tstB (callE2 (f2 eqT) (.sl 0) (.val (rp (.str (nn c_last)))))) (retS m_l_due_c22) skipS)
    (retS (mvE 2))))))))
noncomputable def m_l_due : List T → Fr := mkF 6 [false, false] m_l_due_m
noncomputable def m_l_bad_d1 : List T → Fr := lstF'
noncomputable def m_l_bad_d2 : List T → Fr := lstF'
noncomputable def m_l_bad_d3 : List T → Fr := tupF'
noncomputable def m_l_bad_d4 : M T := dnewE
noncomputable def m_l_bad_d5 : List T → Fr := lstF'
noncomputable def m_l_bad_m : Sm := (seqS (asgS (tgN 2) (callE m_l_take [(.io 0), (.val (callE (f1 lenT) [(.sl 1)]))]))
    (seqS (asgS (tgN 3) (callE m_l_bad_d1 [(.own (callE2 (f2 addT) (.val (slE (fun l h => f1 (slT l h)) (.sl 1) none (some (cpE 2)))) (.val (slE (fun l h => f1 (slT l h)) (.sl 1) (some (callE2 (f2 addT) (.sl 2) (.val (rp (.int 1))))) none)))), (.own (callE2 (f2 addT) (.val (callE2 (f2 addT) (.val (slE (fun l h => f1 (slT l h)) (.sl 1) none (some (cpE 2)))) (.val (rp (.str (nn ([' '] : Tx))))))) (.val (slE (fun l h => f1 (slT l h)) (.sl 1) (some (cpE 2)) none)))), (.own (callE2 (f2 addT) (.val (callE2 (f2 addT) (.val (slE (fun l h => f1 (slT l h)) (.sl 1) none (some (cpE 2)))) (.val (methE chkS (f1 upperT) (.val (callE2 (f2 ixT) (.sl 1) (.sl 2))) [])))) (.val (slE (fun l h => f1 (slT l h)) (.sl 1) (some (callE2 (f2 addT) (.sl 2) (.val (rp (.int 1))))) none))))]))
    (seqS (asgS (tgN 3) (callE2 (f2 addT) (.sl 3) (.own (callE m_l_bad_d5 [(.own (rp (.str (nn ([] : Tx))))), (.own (callE2 (f2 addT) (.sl 1) (.val (rp (.str (nn (['s'] : Tx))))))), (.own (rp .non)), (.own (rp (.int 0))), (.own (rp (.bl true))), (.own (callE m_l_bad_d2 [(.own (cpE 1))])), (.own (callE m_l_bad_d3 [(.own (cpE 1))])), (.own m_l_bad_d4), (.own (dispE [(.sl 1), (.sl 1)])), (.own (rp (.str (nn c_any))))]))))
    (retS (callE2 (f2 ixT) (.own (mvE 3)) (.val (callE m_l_take [(.io 0), (.val (rp (.int 13)))])))))))
noncomputable def m_l_bad : List T → Fr := mkF 4 [true, false] m_l_bad_m
noncomputable def m_mode_of_1_m : Sm := (seqS (ifS (notM (truE (callE (f2 isiT) [(.sl 0), (.val (rp (.ty "str")))]))) (raiseS "NoMode" (ptE 0 0)) skipS)
    (tryKS (tbn mds_MODES) 0 (raiseS "NoMode" (ptE 0 0))))
noncomputable def m_mode_of_1 : List T → Fr := mkF 1 [false] m_mode_of_1_m
noncomputable def m_l_refused_q3 : Sm := (nrmS [] [] [] [] [1] [] (exprS (callE m_mode_of_1 [(.sl 0)])))
noncomputable def m_l_refused_i4 : Sm := (nrmS [] [] [] [] [] [] (ifS (truE (callE (f2 isiT) [(.sl 0), (.val (rp (.ty "list")))])) (exprS (methE chkL (lbF appF) (.io 0) [(.own (rp (.str (nn c_more))))])) skipS))
noncomputable def m_l_refused_w2_0 : Sm := (nrmS [] [] [] [] [1] [] (seqS m_l_refused_i4
    (retS (callE2 (f2 eqT) (.val (rprE [0] [(0, 0)] (.val (fndE 1 "NoMode")))) (.val (callE (f1 reprT) [(.sl 0)]))))))
noncomputable def m_l_refused_w2_1 : Sm := (nrmS [] [] [] [] [1] [] (retS (rp (.bl false))))
noncomputable def m_l_refused_w2_2 : Sm := (nrmS [] [] [] [] [1] [] (retS (rp (.bl false))))
noncomputable def m_l_refused_q2 : Sm := (nrmS [1] [] [] [] [1] [] (tryS subX m_l_refused_q3 [("NoMode", some 1, m_l_refused_w2_0), ("CustomsError", none, m_l_refused_w2_1), ("Unknown", none, m_l_refused_w2_2)]))
noncomputable def m_l_refused_q1 : Sm := (nrmS [0] [] [] [] [1] [] (seqS m_l_refused_q2
    (retS (rp (.bl false)))))
noncomputable def m_l_refused_v5 : Sm := labS 0 (fun _ => m_l_refused_q1)
noncomputable def m_l_refused_m : Sm := m_l_refused_v5
noncomputable def m_l_refused : List T → Fr := mkF 2 [true] m_l_refused_m
noncomputable def m_law_d1 : List T → Fr := lstF'
noncomputable def m_law_y5 : M T := (callE m_mode_of [(.sl 9)])
noncomputable def m_law_z5 : M Bool := (rp true)
noncomputable def m_law_c3 : M T := (lcE [9] (tgN 9) (itE (cpE 1)) m_law_z5 m_law_y5)
noncomputable def m_law_n2 : Sm := (lendS [0, 1] [2] (asgS (tgN 2) m_law_c3))
noncomputable def m_law_d7 : List T → Fr := lstF'
noncomputable def m_law_y10 : M T := (callE m_l_drawn [(.io 4)])
noncomputable def m_law_z10 : M Bool := (rp true)
noncomputable def m_law_c8 : M T := (lcE [8] (tgN 8) (rngE1 [(.val (callE m_l_take [(.io 4), (.sl 5)]))]) m_law_z10 m_law_y10)
noncomputable def m_law_y14 : M T := (methE chkS (f2 joinT) (.val (rp (.str (nn ([] : Tx))))) [(.sl 13)])
noncomputable def m_law_z14 : M Bool := (rp true)
noncomputable def m_law_c12 : M T := (lcE [13] (tgN 13) (itE (cpE 6)) m_law_z14 m_law_y14)
noncomputable def m_law_n11 : Sm := (lendS [0, 1, 2, 4, 6] [7] (asgS (tgN 7) m_law_c12))
noncomputable def m_law_f18 : List (Str × (List T → Fr)) := [("in_full", m_in_full), ("as_initials", m_as_initials), ("first_alone", m_first_alone), ("last_alone", m_last_alone), ("as_bare", m_as_bare), ("in_capitals", m_in_capitals)]
noncomputable def m_law_s17 : Sm := (asgS (tgN 12) (dspE m_law_f18 10 [(.ch (tstB (callE2 (f2 eqT) (.sl 8) (.val (rp (.int 0))))) (.sl 11) (.val (callE (f1 tupleT) [(.sl 7)])))]))
noncomputable def m_law_x19 : M Bool := (ifE (notM (truE (callE (f2 isiT) [(.sl 12), (.val (rp (.ty "list")))]))) (rp true) (ifE (tstB (callE2 (f2 neT) (.sl 12) (.val (callE m_l_due [(.sl 9), (.sl 6)])))) (rp true) (tstB (callE2 (f2 neT) (.sl 11) (.sl 7)))))
noncomputable def m_law_b16 : Sm := (nrmS [9, 10, 11, 12] [1, 2] [9, 10, 11, 12] [1, 2] [0, 1, 2, 3, 4, 5, 6, 7, 8, 9, 10, 11, 12, 13] [] (seqS (asgS (tgN 11) (callE (f1 listT) [(.sl 7)]))
    (seqS m_law_s17
    (seqS (ifS m_law_x19 (retS (rp (.bl false))) skipS)
    (seqS (exprS (methE chkL appF (.io 12) [(.own (rp (.str (nn (['x'] : Tx)))))]))
    (seqS (ifS (tstB (callE2 (f2 neT) (.sl 11) (.sl 7))) (retS (rp (.bl false))) skipS)
    skipS))))))
noncomputable def m_law_l16 : Sm := (seqS (nrmP [9, 10, 11, 12] []) (forE (tgT [(tgN 9), (tgN 10)]) (zipE [(.sl 1), (.sl 2)]) m_law_b16))
noncomputable def m_law_b15 : Sm := (nrmS [8, 9, 10, 11, 12] [1, 2] [8, 9, 10, 11, 12] [1, 2] [0, 1, 2, 3, 4, 5, 6, 7, 8, 9, 10, 11, 12, 13] [] (seqS m_law_l16
    skipS))
noncomputable def m_law_l15 : Sm := (seqS (nrmP [8, 9, 10, 11, 12] []) (forE (tgN 8) (rngE1 [(.val (rp (.int 2)))]) m_law_b15))
noncomputable def m_law_b6 : Sm := (nrmS [3, 4, 5, 6, 7, 8, 9, 10, 11, 12] [1, 2] [3, 4, 5, 6, 7, 8, 9, 10, 11, 12] [1, 2] [0, 1, 2, 3, 4, 5, 6, 7, 8, 9, 10, 11, 12, 13] [] (seqS (asgS (tgN 4) (callE m_l_box [(.val (callE m_l_cell [(.sl 0), (.sl 3)]))]))
    (seqS (asgS (tgN 5) (callE2 (f2 ixT) (.val (callE m_law_d7 [(.own (rp (.int 4))), (.own (rp (.int 19)))])) (.val (callE m_l_take [(.io 4), (.val (rp (.int 2)))]))))
    (seqS (asgS (tgN 6) m_law_c8)
    (seqS m_law_n11
    (seqS m_law_l15
    (seqS (ifS (notM (truE (callE (drp m_l_refused) [(.own (callE m_l_bad [(.io 4), (.val (callE2 (f2 ixT) (.sl 1) (.val (callE m_l_take [(.io 4), (.val (rp (.int 6)))]))))]))]))) (retS (rp (.bl false))) skipS)
    skipS)))))))
noncomputable def m_law_l6 : Sm := (seqS (nrmP [3, 4, 5, 6, 7, 8, 9, 10, 11, 12] [1, 2]) (forE (tgN 3) (rngE1 [(.val (callE (f2 maxT) [(.val (rp (.int 2))), (.val (callE (f2 minT) [(.val (rp (.int 6))), (.val (callE (f1 lenT) [(.sl 0)]))]))]))]) m_law_b6))
noncomputable def m_law_m : Sm := (seqS (asgS (tgN 1) (callE m_law_d1 [(.own (rp (.str (nn c_full)))), (.own (rp (.str (nn c_initials)))), (.own (rp (.str (nn c_first)))), (.own (rp (.str (nn c_last)))), (.own (rp (.str (nn c_bare)))), (.own (rp (.str (nn c_high))))]))
    (seqS m_law_n2
    (seqS m_law_l6
    (retS (rp (.bl true))))))
noncomputable def m_law : List T → Fr := mkF 14 [false] m_law_m
local macro_rules | `(tactic| walk_at "ev") => `(tactic| simp (config := { maxSteps := 400000 }) -implicitDefEqProofs (discharger := (first | omega | decide | (simp only [List.length_append, List.length_map, List.length_cons, List.length_nil, List.length_reverse, List.length_range, List.length_zipIdx, List.length_set, List.length_take, List.length_drop, List.length_dropLast, List.length_replicate, List.length_tail] <;> omega) | fail)) only [optB_s, lcB_e, kB1_e, kB2_t, kB2_f, kB3_e, forS_n, lp_nxt, lp_cnt, lp_brk, lp_ret, lp_exc, isi_e, isiK_s, mk_ok, mk_exc, in_ss, tryS_e, hdN1_t, hdN_t, hdN_f, hdS1_t, hdS_t, hdS_f, hdl_0, hdl_n, hdl_s, fndE_e, fndK_s, ty_non, ty_bl, ty_int, ty_str, ty_lst, ty_tup, ty_dct, sb_NoneType_NoneType, sb_NoneType_bool, sb_NoneType_int, sb_NoneType_str, sb_NoneType_list, sb_NoneType_tuple, sb_NoneType_dict, sb_bool_NoneType, sb_bool_bool, sb_bool_int, sb_bool_str, sb_bool_list, sb_bool_tuple, sb_bool_dict, sb_int_NoneType, sb_int_bool, sb_int_int, sb_int_str, sb_int_list, sb_int_tuple, sb_int_dict, sb_str_NoneType, sb_str_bool, sb_str_int, sb_str_str, sb_str_list, sb_str_tuple, sb_str_dict, sb_list_NoneType, sb_list_bool, sb_list_int, sb_list_str, sb_list_list, sb_list_tuple, sb_list_dict, sb_tuple_NoneType, sb_tuple_bool, sb_tuple_int, sb_tuple_str, sb_tuple_list, sb_tuple_tuple, sb_tuple_dict, sb_dict_NoneType, sb_dict_bool, sb_dict_int, sb_dict_str, sb_dict_list, sb_dict_tuple, sb_dict_dict, tr_nxt, tr_cnt, tr_brk, tr_ret, tr_exc, mapR_nxt, mapR_ret, mapR_brk, mapR_cnt, noE_n, noE_c, isE_unb, isE_v, isE_non, isE_bl, isE_int, isE_str, isE_lst, isE_tup, isE_dct, isE_ins, isE_sq, rb_e, rp_e, rsb_ok, rsb_exc, ofE_e, rss_ok, rss_exc, seqS_e, rtb_nxt, rtb_ret, rtb_exc, rtb_brk, rtb_cnt, skipS_e, optR_s, callE_e, evA_nil, chkM_e, okA_t, okA_s, okA_io, okS_s, callM_e, callT_s, callA_s, frc_ok, frc_exc, settle_n, settle_t, settle_f, take_nil, take_cons, takC_s, asm_nil, asm_t, asm_o, asm_s, asmS_s, asm_io, ios_nil, ios_t, ios_o, ios_s, ios_io, bos_nil, bos_t, bos_o, bos_s, bos_io, putS_nil, putS_cons, frzS_nil, frzS_cons, frzC_s, tgN_e, tgT_e, tgU_t, tgs_nl, tgs_cn, ob_s, f1_e, f2_e, fro_s, mkF_e, rtf_nxt, rtf_ret, rtf_exc, fre_s, ioIx_nil, ioIx_t, ioIx_f, bM_b, rso_s, isO_t, isO_s, part_n, iM_i, valA_s, optM_s, unbS_nil, unbS_cons, un_int, un_str, un_bo, un_no, un_lst, un_tup, un_dct, un_ins, un_ty, un_cls, un_sq, isV_int, isV_str, isV_bl, isV_non, isV_lst, isV_tup, isV_dct, isV_ins, isV_sq, isV_unb, frz_int, frz_str, frz_bl, frz_non, frz_lst, frz_tup, frz_dct, frz_ins, frz_sq, frz_ty, frz_cls, frz_unb, fr_int, fr_str, fr_bl, fr_non, fr_lst, fr_tup, fr_dct, fr_ins, fr_sq, frz_strs, frz_ints, fr_strs, fr_ints, add_ii, add_ss, add_ll, add_tt, sub_ii, mul_ii, mod_ii, div_ii, pow_ii, neg_i, lt_ii, lt_ss, le_ii, gt_ii, eq_ii, eq_ss, eq_bb, ne_ii, ne_ss, ne_bb, ix_l, ix_t, ix_s, ix_sq, sl_s, sl_l, sl_t, len_s, len_l, len_t, len_sq, len_d, max_ii, min_ii, tru_b, list_l, list_t, tuple_l, tuple_t, lstF_e, tupF_e, app_e, clr_e, set_e, items_l, items_t, items_s, rng1, zip_l, chkL_l, chkS_s, join_l, dle_t, dle_f, dlt_t, dlt_f, deq_t, deq_f, kNxt_e, kRet_e, kExc_e, kAsg_e, exprS_e, retS_e, raiseS_e, asgS_e, kIfS_t, kIfS_f, ifS_e, kIfE_t, kIfE_f, ifE_e, kC1_e, callE1_e, kD2_e, kC2_e, callE2_e, kA2_e, kA_e, evA_cons, kVal_e, kOwn_e, evO_val, evO_own, seK_t, seS_s, evO_s, seI_s, evO_io, seC_s, cpE_e, seM_s, mvE_e, kCh_t, kCh_f, evO_ch, kM2_e, kM1_t, kM_e, methE_e, kTst_e, tstB_e, kTru_e, truE_e, kNot_e, notM_e, kAnd_t, kAnd_f, andE_e, kX5_t, kX5_f, kX4_e, kX3_f, kX2_e, kX1_e, chain_e, kS3_e, kS2_e, kS1_e, setV_e, setS3_e, kPart_e, part_s, kL3_e, kL2_e, kL1_e, slE_e, kIt_e, itE_e, kVs_e, kR1_e, kZi_e, rngE1_e, zipE_e, forE_e, kLc_e, lcE_e, q_v, q_f, q_u, q_e, q_w, q_fz, q_int, q_bl, q_non, q_str, q_lenS, q_lenL, q_lenV, q_lenLv, q_lenP2, q_lenP3, q_lenSq, q_lenD, q_ixL, q_ixV, q_ixLv, q_ixSq, q_ixS, q_ix20, q_ix21, q_ix10, q_ix30, q_ix31, q_ix32, q_ix40, q_ix41, q_ix42, q_ix43, q_slS, q_slL, q_slLz, q_addI, q_addS, q_addL, q_addLz, q_subI, q_mulI, q_mulL, q_modI, q_divI, q_powI, q_negI, q_ltI, q_ltS, q_leI, q_gtI, q_eqI, q_neI, q_eqB, q_neB, q_eqS, q_neS, q_maxI, q_minI, q_inS, q_inT, q_inL, q_inV, q_itL, q_itV, q_itLv, q_itS, q_rng1, q_zip, q_tg2, q_tg3, q_tg4, q_tg5, q_bM, q_iM, q_truB, q_truI, q_truL, q_truS, q_chkL, q_chkS, q_app, q_clear, q_setL, q_listL, q_listV, q_listLv, q_listLz, q_tupleL, q_tupleV, q_tyB, q_tyI, q_tyN, q_tyS, q_tyL, q_tyV, q_ty1, q_ty2, q_ty3, q_ty4, q_ty5, q_tyD, q_tyLv, q_isLvL, q_isN, q_isnN, q_isn', q_is', q_none, q_some, q_ob0, q_mq, q_lvL, q_lvV, q_joinL, q_joinV, q_upper, q_sbL, q_sbT, q_sbS, q_sbD, q_ixD, q_setD, q_inD, q_appZ, q_setLZ, q_inT2, q_inT3, q_eqD, q_neD, q_ixh20, q_ixh21, q_ixh30, q_ixh31, q_ixh32, q_ixh40, q_ixh41, q_ixh42, q_ixh43, q_ixh50, q_ixh51, q_ixh52, q_ixh53, q_ixh54, q_repr, q_eqRw, q_neRw, q_tupLv, q_listD, q_lenP4, q_lenP5, q_lenP1, q_lenH2, q_lenH3, q_lenH4, q_setDZ, q_disp1, q_disp2, q_kDisp, q_dispE, q_appZq, q_inl, q_inr, q_tyU, q_wg, q_dspE, q_dspX, q_dspK, q_slV, q_eqRwS, q_neRwS, q_appXl, q_unlE, q_kUn, q_unN, q_unR, q_unX, q_ptE, q_kPt, q_atvU, q_atvF, q_atvR, q_atvV, q_atvE, q_ptrF, q_ptrR, q_ptrV, q_ptrE, q_lbF, q_lbK, q_pv, q_frXl, q_frXr, q_chkA, q_subI0, q_subI1, q_kSubI, q_unOkS, q_unOkE, q_subUn, q_subV, q_subF, q_subVe, q_subVf, q_subUe, q_subUf, q_unbU, q_slLv, q_kTI, q_kTK, q_kTLs, q_kTLn, q_keyO, q_keyA, q_q, okA_o, frzS_stl, frA_s, nrmE_e, nrmR_n, nrmR_b, nrmR_c, nrmR_r, nrmR_x, rsf_ok, rsf_exc, rsv_ok, rsv_exc, nrmS_e, nrmP_e, exR_l, exR_r, mk_ok', frzA_cc, frzA_nn, noXS_e, noXT_n, noXT_r, noXT_exR, id_eq, rprE_e, tryKS_e, Bool.not_or_self, Bool.or_not_self, Bool.not_not, Int.cast_ofNat_Int, Int.toNat_natCast, Int.natCast_add, List.length_map, List.length_range, List.length_cons, List.length_nil, List.replicate_zero, List.replicate_succ, List.cons_append, List.nil_append, List.append_nil, List.getElem?_cons_zero, List.getElem?_cons_succ, List.set_cons_zero, List.set_cons_succ, List.map_cons, List.map_nil, List.all_cons, List.all_nil, Option.map_some, Option.map_none, Nat.reduceAdd, Nat.reduceSub, Nat.reduceLT, Nat.reduceLeDiff, Nat.reduceEqDiff, Int.reduceLT, Int.reduceLE, Int.reduceAdd, Int.reduceSub, Int.reduceMul, Int.reducePow, Int.reduceNeg, Int.reduceEq, Int.reduceToNat, if_true, if_false, Bool.and_true, Bool.true_and, Bool.and_false, Bool.false_and, Bool.not_true, Bool.not_false, Bool.or_true, Bool.true_or, Bool.or_false, Bool.false_or, Bool.false_eq_true, eq_self, ite_true, ite_false, ↓reduceIte, and_self, and_true, true_and, or_true, true_or, decide_true, decide_false, not_true_eq_false, not_false_eq_true, *])
local macro_rules | `(tactic| walk_at "fl") => `(tactic| (first | (rename_i r; skip) | skip))
noncomputable def mode_of (mode : Tx) : Option Fu :=
  (wgO mds_MODES mode) >>= fun t1 =>
  pure t1
theorem t_mode_of (mode : Tx) {out} (h : mode_of mode = some out) : m_mode_of [en true mode] = .ok (en true out) [] := by
  unfold mode_of at h
  replace h := bs h; obtain ⟨t1, h_t1, h⟩ := h
  obtain rfl := po h
  unfold m_mode_of m_mode_of_m; walk_at "ev"
noncomputable def l_cell (script : Scr) (k_v : Int) : Option Int :=
  if (decide (k_v < (script.l.length : Int))) = true then
    (atI script.l k_v) >>= fun t1 =>
    pure t1
  else
    pure (((334214459 : Int) * k_v) + (131 : Int))
theorem t_l_cell (script : Scr) (k_v : Int) {out} (h : l_cell script k_v = some out) : m_l_cell [en true script, en true k_v] = .ok (en true out) [] := by
  unfold l_cell at h
  by_cases hc1 : (decide (k_v < (script.l.length : Int))) = true
  · rw [if_pos hc1] at h
    replace h := bs h; obtain ⟨t1, h_t1, h⟩ := h
    obtain rfl := po h
    unfold m_l_cell m_l_cell_m; walk_at "ev"
  · rw [if_neg hc1] at h
    rw [Bool.not_eq_true] at hc1
    have k_1 := mulO_l (334214459 : Int) k_v (by decide)
    try simp only [q_none, q_some, q_lvL, q_lvV, q_lvV2] at k_1
    obtain rfl := po h
    unfold m_l_cell m_l_cell_m; walk_at "ev"
noncomputable def l_box (cell : Int) : Option (List Int) :=
  pure ([(max (0 : Int) (cell - (1000000000000000000 : Int))), (cell % (2147483629 : Int)), (0 : Int)] : (List Int))
theorem t_l_box (cell : Int) {out} (h : l_box cell = some out) : m_l_box [en true cell] = .ok (en true out) [] := by
  unfold l_box at h
  have k_1 : powO (10 : Int) (18 : Int) = some (1000000000000000000 : Int) := by decide
  have k_2 := modO_p cell (2147483629 : Int) (by decide)
  try simp only [q_none, q_some, q_lvL, q_lvV, q_lvV2] at k_2
  have k_3 : m_l_box_d1 [en true (max (0 : Int) (cell - (1000000000000000000 : Int))), en true (cell % (2147483629 : Int)), en true (0 : Int)] = .ok (en true ([(max (0 : Int) (cell - (1000000000000000000 : Int))), (cell % (2147483629 : Int)), (0 : Int)] : (List Int))) [] := dsp_l (show (3 : Nat) ≤ lim by decide) rfl
  obtain rfl := po h
  unfold m_l_box m_l_box_m; walk_at "ev"
noncomputable def l_take (box : (List Int)) (many : Int) : Option (Int × (List Int)) :=
  (atI box (0 : Int)) >>= fun t1 =>
  if (decide ((0 : Int) < t1)) = true then
    (modO t1 many) >>= fun t2 =>
    (divO t1 many) >>= fun t3 =>
    (setO box (0 : Int) t3) >>= fun t4 =>
    pure (t2, t4)
  else
    (atI box (2 : Int)) >>= fun t5 =>
    (setO box (2 : Int) (t5 + (1 : Int))) >>= fun t6 =>
    (atI t6 (1 : Int)) >>= fun t7 =>
    (atI t6 (2 : Int)) >>= fun t8 =>
    (powO ((t7 + ((6217 : Int) * t8)) + (131 : Int)) (5 : Int)) >>= fun t9 =>
    (powO ((t9 % (2147483647 : Int)) + ((92862 : Int) * t8)) (3 : Int)) >>= fun t10 =>
    (modO ((t10 % (2147483587 : Int)) / (16 : Int)) many) >>= fun t11 =>
    pure (t11, t6)
theorem t_l_take (box : (List Int)) (many : Int) {out} (h : l_take box many = some out) : m_l_take [en true box, en true many] = .ok (en true out.1) [en true out.2] := by
  unfold l_take at h
  replace h := bs h; obtain ⟨t1, h_t1, h⟩ := h
  by_cases hc1 : (decide ((0 : Int) < t1)) = true
  · rw [if_pos hc1] at h
    replace h := bs h; obtain ⟨t2, h_t2, h⟩ := h
    replace h := bs h; obtain ⟨t3, h_t3, h⟩ := h
    replace h := bs h; obtain ⟨t4, h_t4, h⟩ := h
    obtain rfl := po h
    unfold m_l_take m_l_take_m; walk_at "ev"
  · rw [if_neg hc1] at h
    rw [Bool.not_eq_true] at hc1
    replace h := bs h; obtain ⟨t5, h_t5, h⟩ := h
    replace h := bs h; obtain ⟨t6, h_t6, h⟩ := h
    replace h := bs h; obtain ⟨t7, h_t7, h⟩ := h
    replace h := bs h; obtain ⟨t8, h_t8, h⟩ := h
    have k_1 := mulO_l (6217 : Int) t8 (by decide)
    try simp only [q_none, q_some, q_lvL, q_lvV, q_lvV2] at k_1
    replace h := bs h; obtain ⟨t9, h_t9, h⟩ := h
    have k_2 := modO_p t9 (2147483647 : Int) (by decide)
    try simp only [q_none, q_some, q_lvL, q_lvV, q_lvV2] at k_2
    have k_3 := mulO_l (92862 : Int) t8 (by decide)
    try simp only [q_none, q_some, q_lvL, q_lvV, q_lvV2] at k_3
    replace h := bs h; obtain ⟨t10, h_t10, h⟩ := h
    have k_4 := modO_p t10 (2147483587 : Int) (by decide)
    try simp only [q_none, q_some, q_lvL, q_lvV, q_lvV2] at k_4
    have k_5 := divO_p (t10 % (2147483587 : Int)) (16 : Int) (by decide)
    try simp only [q_none, q_some, q_lvL, q_lvV, q_lvV2] at k_5
    replace h := bs h; obtain ⟨t11, h_t11, h⟩ := h
    obtain rfl := po h
    unfold m_l_take m_l_take_m; walk_at "ev"
noncomputable def l_drawn_x4 (way : Int) (sign : Tx) : Option Tx :=
  if (decide (way = (0 : Int))) = true then
    (upS sign) >>= fun t8 =>
    pure t8
  else
    pure sign
theorem t_l_drawn_x4 (way : Int) (sign : Tx) {out} (h : l_drawn_x4 way sign = some out) : ∀ y0 y1 y2 y3 y6 : T, m_l_drawn_x4 [y0, y1, y2, y3, en true way, en true sign, y6] = .ok (en true out) [y0, y1, y2, y3, en true way, en true sign, y6] := by
  intro y0 y1 y2 y3 y6
  unfold l_drawn_x4 at h
  by_cases hc : (decide (way = (0 : Int))) = true
  · rw [if_pos hc] at h
    replace h := bs h; obtain ⟨t8, h_t8, h⟩ := h
    obtain rfl := po h
    unfold m_l_drawn_x4; walk_at "ev"
  · rw [if_neg hc] at h
    rw [Bool.not_eq_true] at hc
    obtain rfl := po h
    unfold m_l_drawn_x4; walk_at "ev"
noncomputable def l_drawn_b2 (box : (List Int)) (small : Tx) (found : (List Tx)) (x : Int) : Option ((List Int) × (List Tx)) :=
  (l_take box (3 : Int)) >>= fun t3 =>
  (l_take t3.2 (26 : Int)) >>= fun t4 =>
  (ixS small t4.1) >>= fun t5 =>
  (l_take t4.2 (7 : Int)) >>= fun t6 =>
  (atI ([([] : Tx), ([] : Tx), (['\''] : Tx), (['`'] : Tx), (['^'] : Tx), (['~'] : Tx), ([':'] : Tx)] : (List Tx)) t6.1) >>= fun t7 =>
  (l_drawn_x4 t3.1 t5) >>= fun t8 =>
  (catS t8 t7) >>= fun t9 =>
  (apO found t9) >>= fun t10 =>
  pure (t6.2, t10)
theorem t_l_drawn_b2 (box : (List Int)) (small : Tx) (found : (List Tx)) (x : Int) {out} (h : l_drawn_b2 box small found x = some out) : m_l_drawn_b2 [en true box, en true small, en true found, en true x, .unb, .unb, .unb] = .nxt [en true out.1, en true small, en true out.2, .unb, .unb, .unb, .unb] := by
  skip
  unfold l_drawn_b2 at h
  replace h := bs h; obtain ⟨t3, h_t3, h⟩ := h
  have e_t3 := t_l_take _ _ h_t3
  try simp only [q_none, q_some, q_lvL, q_lvV, q_lvV2] at e_t3
  replace h := bs h; obtain ⟨t4, h_t4, h⟩ := h
  have e_t4 := t_l_take _ _ h_t4
  try simp only [q_none, q_some, q_lvL, q_lvV, q_lvV2] at e_t4
  replace h := bs h; obtain ⟨t5, h_t5, h⟩ := h
  have k_2 : m_l_drawn_d3 [en true ([] : Tx), en true ([] : Tx), en true (['\''] : Tx), en true (['`'] : Tx), en true (['^'] : Tx), en true (['~'] : Tx), en true ([':'] : Tx)] = .ok (en true ([([] : Tx), ([] : Tx), (['\''] : Tx), (['`'] : Tx), (['^'] : Tx), (['~'] : Tx), ([':'] : Tx)] : (List Tx))) [] := dsp_l (show (7 : Nat) ≤ lim by decide) rfl
  replace h := bs h; obtain ⟨t6, h_t6, h⟩ := h
  have e_t6 := t_l_take _ _ h_t6
  try simp only [q_none, q_some, q_lvL, q_lvV, q_lvV2] at e_t6
  replace h := bs h; obtain ⟨t7, h_t7, h⟩ := h
  replace h := bs h; obtain ⟨t8, h_t8, h⟩ := h
  have e_t8 := t_l_drawn_x4 _ _ h_t8
  try simp only [q_none, q_some, q_lvL, q_lvV, q_lvV2] at e_t8
  replace h := bs h; obtain ⟨t9, h_t9, h⟩ := h
  replace h := bs h; obtain ⟨t10, h_t10, h⟩ := h
  obtain rfl := po h
  unfold m_l_drawn_b2; walk_at "ev"
noncomputable def l_drawn_l2 (box : (List Int)) (small : Tx) (found : (List Tx)) : Option ((List Int) × (List Tx)) :=
  (l_take box (8 : Int)) >>= fun t1 =>
  (rngO ((1 : Int) + t1.1)) >>= fun t2 =>
  forO t2 (t1.2, found) (fun x s => l_drawn_b2 s.1 small s.2 x)
theorem t_l_drawn_l2 (box : (List Int)) (small : Tx) (found : (List Tx)) {out} (h : l_drawn_l2 box small found = some out) : ∀ y3 y4 y5 y6 : T, m_l_drawn_l2 [en true box, en true small, en true found, y3, y4, y5, y6] = .nxt [en true out.1, en true small, en true out.2, .unb, .unb, .unb, .unb] := by
  intro y3 y4 y5 y6
  unfold l_drawn_l2 at h
  replace h := bs h; obtain ⟨t1, h_t1, h⟩ := h
  have e_t1 := t_l_take _ _ h_t1
  try simp only [q_none, q_some, q_lvL, q_lvV, q_lvV2] at e_t1
  replace h := bs h; obtain ⟨t2, h_t2, h⟩ := h
  have k := forS_t (S := ((List Int) × (List Tx))) (g := (tgN 3)) (b := m_l_drawn_b2) (ex := (en true : Int → T)) (enc := (fun s => [en true s.1, en true small, en true s.2, .unb, .unb, .unb, .unb])) (fun x s s' hb => by
      have e := t_l_drawn_b2 s.1 small s.2 x hb
      walk_at "ev") t2 (t1.2, found) out h
  try dsimp only at k
  try simp only [List.map_cons, List.map_nil, q_fz, q_some, q_none] at k
  unfold m_l_drawn_l2; walk_at "ev"
noncomputable def l_drawn (box : (List Int)) : Option ((List Tx) × (List Int)) :=
  (l_drawn_l2 box cSmall ([] : (List Tx))) >>= fun t11 =>
  pure (t11.2, t11.1)
theorem t_l_drawn (box : (List Int)) {out} (h : l_drawn box = some out) : m_l_drawn [en true box] = .ok (en true out.1) [en true out.2] := by
  unfold l_drawn at h
  have k_1 : m_l_drawn_d1 [] = .ok (en true ([] : (List Tx))) [] := dsp_l (show (0 : Nat) ≤ lim by decide) rfl
  replace h := bs h; obtain ⟨t11, h_t11, h⟩ := h
  have e_t11 := t_l_drawn_l2 _ _ _ h_t11
  try simp only [q_none, q_some, q_lvL, q_lvV, q_lvV2] at e_t11
  obtain rfl := po h
  unfold m_l_drawn m_l_drawn_m; walk_at "ev"
noncomputable def in_full (words : (Lv Tx)) : Option (List Tx) :=
  pure words.l
theorem t_in_full (words : (Lv Tx)) {out} (h : in_full words = some out) : m_in_full [en false words] = .ok (en true out) [] := by
  unfold in_full at h
  obtain rfl := po h
  unfold m_in_full m_in_full_m; walk_at "ev"
noncomputable def letters_in_x3 (sign : Tx) : Option Bool :=
  (inSx sign cSmall) >>= fun t1 =>
  if (t1) = true then pure true
  else
    (inSx sign cCaps) >>= fun t2 =>
    pure (t2)
theorem t_letters_in_x3 (sign : Tx) {out} (h : letters_in_x3 sign = some out) : ∀ y0 y1 : T, m_letters_in_x3 [y0, y1, en true sign] = .ok out [y0, y1, en true sign] := by
  intro y0 y1
  unfold letters_in_x3 at h
  replace h := bs h; obtain ⟨t1, h_t1, h⟩ := h
  by_cases hc0 : (t1) = true
  · rw [if_pos hc0] at h
    obtain rfl := po h
    unfold m_letters_in_x3; walk_at "ev"
  · rw [if_neg hc0] at h
    rw [Bool.not_eq_true] at hc0
    replace h := bs h; obtain ⟨t2, h_t2, h⟩ := h
    obtain rfl := po h
    unfold m_letters_in_x3; walk_at "ev"
noncomputable def letters_in_x4 (found : (List Tx)) (sign : Tx) : Option Bool :=
  (inSx sign cMarks) >>= fun t3 =>
  if (t3) = true then
    if (!(decide (found = ([] : (List Tx))))) = true then
      (atI found (-(1) : Int)) >>= fun t4 =>
      (lnS t4) >>= fun t5 =>
      pure (decide (t5 = (1 : Int)))
    else pure false
  else pure false
theorem t_letters_in_x4 (found : (List Tx)) (sign : Tx) {out} (h : letters_in_x4 found sign = some out) : ∀ y0 : T, m_letters_in_x4 [y0, en true found, en true sign] = .ok out [y0, en true found, en true sign] := by
  intro y0
  unfold letters_in_x4 at h
  replace h := bs h; obtain ⟨t3, h_t3, h⟩ := h
  by_cases hc0 : (t3) = true
  · rw [if_pos hc0] at h
    have k_2 : m_letters_in_d5 [] = .ok (en true ([] : (List Tx))) [] := dsp_l (show (0 : Nat) ≤ lim by decide) rfl
    by_cases hc1 : (!(decide (found = ([] : (List Tx))))) = true
    · rw [if_pos hc1] at h
      replace h := bs h; obtain ⟨t4, h_t4, h⟩ := h
      replace h := bs h; obtain ⟨t5, h_t5, h⟩ := h
      obtain rfl := po h
      unfold m_letters_in_x4; walk_at "ev"
    · rw [if_neg hc1] at h
      rw [Bool.not_eq_true] at hc1
      obtain rfl := po h
      unfold m_letters_in_x4; walk_at "ev"
  · rw [if_neg hc0] at h
    rw [Bool.not_eq_true] at hc0
    obtain rfl := po h
    unfold m_letters_in_x4; walk_at "ev"
noncomputable def letters_in_b2 (text : Tx) (found : (List Tx)) (x : Tx) : Option (Fl (List Tx) (Option (List Tx))) :=
  (letters_in_x3 x) >>= fun t1 =>
  if t1 = true then
    (apO found x) >>= fun t2 =>
    pure (.go t2)
  else
    (letters_in_x4 found x) >>= fun t3 =>
    if t3 = true then
      (atI found (-(1) : Int)) >>= fun t4 =>
      (catS t4 x) >>= fun t5 =>
      (setO found (-(1) : Int) t5) >>= fun t6 =>
      pure (.go t6)
    else
      pure (.out none)
theorem t_letters_in_b2 (text : Tx) (found : (List Tx)) (x : Tx) {out} (h : letters_in_b2 text found x = some out) : flR (fun s => [en true text, en true s, .unb]) (fun e => .ret (en true e) [.unb, .unb, .unb]) out (m_letters_in_b2 [en true text, en true found, en true x]) := by
  skip
  unfold letters_in_b2 at h
  replace h := bs h; obtain ⟨t1, h_t1, h⟩ := h
  have e_t1 := t_letters_in_x3 _ h_t1
  try simp only [q_none, q_some, q_lvL, q_lvV, q_lvV2] at e_t1
  by_cases hc2 : t1 = true
  · rw [if_pos hc2] at h
    replace h := bs h; obtain ⟨t2, h_t2, h⟩ := h
    obtain rfl := po h
    show _ ∨ _
    left
    unfold m_letters_in_b2; walk_at "ev"
  · rw [if_neg hc2] at h
    rw [Bool.not_eq_true] at hc2
    replace h := bs h; obtain ⟨t3, h_t3, h⟩ := h
    have e_t3 := t_letters_in_x4 _ _ h_t3
    try simp only [q_none, q_some, q_lvL, q_lvV, q_lvV2] at e_t3
    by_cases hc1 : t3 = true
    · rw [if_pos hc1] at h
      replace h := bs h; obtain ⟨t4, h_t4, h⟩ := h
      replace h := bs h; obtain ⟨t5, h_t5, h⟩ := h
      replace h := bs h; obtain ⟨t6, h_t6, h⟩ := h
      obtain rfl := po h
      show _ ∨ _
      left
      unfold m_letters_in_b2; walk_at "ev"
    · rw [if_neg hc1] at h
      rw [Bool.not_eq_true] at hc1
      obtain rfl := po h
      show _ = _
      unfold m_letters_in_b2; walk_at "ev"
noncomputable def letters_in_l2 (text : Tx) (found : (List Tx)) : Option ((List Tx) ⊕ (Option (List Tx))) :=
  forX (sgs text) found (fun x s => letters_in_b2 text s x)
theorem t_letters_in_l2 (text : Tx) (found : (List Tx)) {out} (h : letters_in_l2 text found = some out) : ∀ y2 : T, m_letters_in_l2 [en true text, en true found, y2] = exR (fun s => [en true text, en true s, .unb]) (fun e => .ret (en true e) [.unb, .unb, .unb]) out := by
  intro y2
  unfold letters_in_l2 at h
  have k := forX_t (S := (List Tx)) (g := (tgN 2)) (b := m_letters_in_b2) (ex := (en true : Tx → T)) (enc := (fun s => [en true text, en true s, .unb])) (out := (fun e => .ret (en true e) [.unb, .unb, .unb])) (fun _ => rfl) (fun x s s' hb => by
      have e := t_letters_in_b2 text s x hb
      walk_at "ev") (sgs text) found out h
  try dsimp only at k
  try simp only [List.map_cons, List.map_nil, q_fz, q_some, q_none] at k
  unfold m_letters_in_l2; walk_at "ev"
noncomputable def letters_in (text : Tx) : Option (Option (List Tx)) :=
  (letters_in_l2 text ([] : (List Tx))) >>= fun t7 =>
  match t7 with
  | .inr e => pure e
  | .inl s =>
    pure (some s)
theorem t_letters_in (text : Tx) {out} (h : letters_in text = some out) : m_letters_in [en true text] = .ok (en true out) [] := by
  unfold letters_in at h
  have k_1 : m_letters_in_d1 [] = .ok (en true ([] : (List Tx))) [] := dsp_l (show (0 : Nat) ≤ lim by decide) rfl
  replace h := bs h; obtain ⟨t7, h_t7, h⟩ := h
  have e_t7 := t_letters_in_l2 _ _ h_t7
  try simp only [q_none, q_some, q_lvL, q_lvV, q_lvV2] at e_t7
  cases t7 with
  | inr e =>
    dsimp only at h
    obtain rfl := po h
    unfold m_letters_in m_letters_in_m; walk_at "ev"
  | inl s =>
    dsimp only at h
    obtain rfl := po h
    unfold m_letters_in m_letters_in_m; walk_at "ev"
noncomputable def is_word_x2 (thing : Tx) : Option Bool :=
  (lnS thing) >>= fun t1 =>
  pure ((decide ((1 : Int) ≤ t1)) && (decide (t1 ≤ (16 : Int))))
theorem t_is_word_x2 (thing : Tx) {out} (h : is_word_x2 thing = some out) : ∀ y1 : T, m_is_word_x2 [en true thing, y1] = .ok (en true out) [en true thing, y1] := by
  intro y1
  unfold is_word_x2 at h
  replace h := bs h; obtain ⟨t1, h_t1, h⟩ := h
  have k_1 : mulT (en true (2 : Int)) (en true (8 : Int)) = some (en true (16 : Int)) := rfl
  obtain rfl := po h
  cases hk : (decide ((1 : Int) ≤ t1)) <;> cases hk2 : (decide (t1 ≤ (16 : Int)))
  all_goals (unfold m_is_word_x2; walk_at "ev")
noncomputable def is_word_x1 (thing : Tx) : Option Bool :=
  (is_word_x2 thing) >>= fun t1 =>
  pure (!t1)
theorem t_is_word_x1 (thing : Tx) {out} (h : is_word_x1 thing = some out) : ∀ y1 : T, m_is_word_x1 [en true thing, y1] = .ok out [en true thing, y1] := by
  intro y1
  unfold is_word_x1 at h
  replace h := bs h; obtain ⟨t1, h_t1, h⟩ := h
  have e_t1 := t_is_word_x2 _ h_t1
  try simp only [q_none, q_some, q_lvL, q_lvV, q_lvV2] at e_t1
  obtain rfl := po h
  unfold m_is_word_x1; walk_at "ev"
noncomputable def is_word_x3 (letters : (Option (List Tx))) : Option Bool :=
  if letters.isSome = true then
    letters >>= fun t3 =>
    pure (decide ((t3.length : Int) ≤ (8 : Int)))
  else pure false
theorem t_is_word_x3 (letters : (Option (List Tx))) {out} (h : is_word_x3 letters = some out) : ∀ y0 : T, m_is_word_x3 [y0, en true letters] = .ok (en true out) [y0, en true letters] := by
  intro y0
  unfold is_word_x3 at h
  by_cases hc0 : letters.isSome = true
  · rw [if_pos hc0] at h
    replace h := bs h; obtain ⟨t3, h_t3, h⟩ := h
    first | (subst h_t3; (try simp only [q_some] at *)) | (have k_somet3 := en_some h_t3)
    obtain rfl := po h
    unfold m_is_word_x3; walk_at "ev"
  · rw [if_neg hc0] at h
    rw [Bool.not_eq_true] at hc0
    obtain rfl := po h
    unfold m_is_word_x3; walk_at "ev"
noncomputable def is_word (thing : Tx) : Option Bool :=
  (is_word_x1 thing) >>= fun t1 =>
  if t1 = true then
    pure false
  else
    (letters_in thing) >>= fun t2 =>
    (is_word_x3 t2) >>= fun t3 =>
    pure t3
theorem t_is_word (thing : Tx) {out} (h : is_word thing = some out) : m_is_word [en true thing] = .ok (en true out) [] := by
  unfold is_word at h
  replace h := bs h; obtain ⟨t1, h_t1, h⟩ := h
  have e_t1 := t_is_word_x1 _ h_t1
  try simp only [q_none, q_some, q_lvL, q_lvV, q_lvV2] at e_t1
  by_cases hc1 : t1 = true
  · rw [if_pos hc1] at h
    obtain rfl := po h
    unfold m_is_word m_is_word_m; walk_at "ev"
  · rw [if_neg hc1] at h
    rw [Bool.not_eq_true] at hc1
    replace h := bs h; obtain ⟨t2, h_t2, h⟩ := h
    have e_t2 := t_letters_in _ h_t2
    try simp only [q_none, q_some, q_lvL, q_lvV, q_lvV2] at e_t2
    replace h := bs h; obtain ⟨t3, h_t3, h⟩ := h
    have e_t3 := t_is_word_x3 _ h_t3
    try simp only [q_none, q_some, q_lvL, q_lvV, q_lvV2] at e_t3
    obtain rfl := po h
    unfold m_is_word m_is_word_m; walk_at "ev"
noncomputable def letters_of_x1 (word : Tx) : Option (Option (List Tx)) :=
  (is_word word) >>= fun t1 =>
  if t1 = true then
    (letters_in word) >>= fun t2 =>
    pure t2
  else
    pure none
theorem t_letters_of_x1 (word : Tx) {out} (h : letters_of_x1 word = some out) : ∀ y1 : T, m_letters_of_x1 [en true word, y1] = .ok (en true out) [en true word, y1] := by
  intro y1
  unfold letters_of_x1 at h
  replace h := bs h; obtain ⟨t1, h_t1, h⟩ := h
  have e_t1 := t_is_word _ h_t1
  try simp only [q_none, q_some, q_lvL, q_lvV, q_lvV2] at e_t1
  by_cases hc : t1 = true
  · rw [if_pos hc] at h
    replace h := bs h; obtain ⟨t2, h_t2, h⟩ := h
    have e_t2 := t_letters_in _ h_t2
    try simp only [q_none, q_some, q_lvL, q_lvV, q_lvV2] at e_t2
    obtain rfl := po h
    unfold m_letters_of_x1; walk_at "ev"
  · rw [if_neg hc] at h
    rw [Bool.not_eq_true] at hc
    obtain rfl := po h
    unfold m_letters_of_x1; walk_at "ev"
noncomputable def letters_of (word : Tx) : Option (List Tx) :=
  (letters_of_x1 word) >>= fun t1 =>
  if t1.isNone = true then
    none
  else
    t1 >>= fun t2 =>
    pure t2
theorem t_letters_of (word : Tx) {out} (h : letters_of word = some out) : m_letters_of [en true word] = .ok (en true out) [] := by
  unfold letters_of at h
  replace h := bs h; obtain ⟨t1, h_t1, h⟩ := h
  have e_t1 := t_letters_of_x1 _ h_t1
  try simp only [q_none, q_some, q_lvL, q_lvV, q_lvV2] at e_t1
  by_cases hc1 : t1.isNone = true
  · rw [if_pos hc1] at h
    cases h
  · rw [if_neg hc1] at h
    rw [Bool.not_eq_true] at hc1
    replace h := bs h; obtain ⟨t2, h_t2, h⟩ := h
    first | (subst h_t2; (try simp only [q_some] at *)) | (have k_somet2 := en_some h_t2)
    obtain rfl := po h
    unfold m_letters_of m_letters_of_m; walk_at "ev"
noncomputable def as_initials_e2  (x : Tx) : Option Tx :=
  (letters_of x) >>= fun t1 =>
  (atI t1 (0 : Int)) >>= fun t2 =>
  (catS t2 (['.'] : Tx)) >>= fun t3 =>
  pure t3
theorem t_as_initials_e2  (x : Tx) {out} (h : as_initials_e2  x = some out) : ∀ y0 : T, lcB [1] (tgN 1) m_as_initials_z3 m_as_initials_y3 (en true x) [y0, .unb] = .ok (some (en true out)) [y0, .unb] := by
  intro y0
  unfold as_initials_e2 at h
  replace h := bs h; obtain ⟨t1, h_t1, h⟩ := h
  have e_t1 := t_letters_of _ h_t1
  try simp only [q_none, q_some, q_lvL, q_lvV, q_lvV2] at e_t1
  replace h := bs h; obtain ⟨t2, h_t2, h⟩ := h
  replace h := bs h; obtain ⟨t3, h_t3, h⟩ := h
  obtain rfl := po h
  unfold m_as_initials_y3 m_as_initials_z3; walk_at "ev"
noncomputable def as_initials_c1 (words : (Lv Tx)) : Option (List Tx) :=
  (mpO words.l (fun x => as_initials_e2  x)) >>= fun t4 =>
  pure t4
theorem t_as_initials_c1 (words : (Lv Tx)) {out} (h : as_initials_c1 words = some out) : m_as_initials_c1 [en false words, .unb] = .ok (en true out) [.unb, .unb] := by
  skip
  unfold as_initials_c1 at h
  replace h := bs h; obtain ⟨t4, h_t4, h⟩ := h
  have k_1 : ∀ y0 : T, lcL [1] (tgN 1) m_as_initials_z3 m_as_initials_y3 (words.l.map (en true)) [] [y0, .unb] = .ok (en true t4) [y0, .unb] := by
    intro y0
    exact mpO_t (ex := fun x : Tx => en true x) (env := [y0, .unb]) (fun x o ho => t_as_initials_e2  x ho _) h_t4
  obtain rfl := po h
  unfold m_as_initials_c1; walk_at "ev"
noncomputable def as_initials (words : (Lv Tx)) : Option (List Tx) :=
  (as_initials_c1 words) >>= fun t1 =>
  pure t1
theorem t_as_initials (words : (Lv Tx)) {out} (h : as_initials words = some out) : m_as_initials [en false words] = .ok (en true out) [] := by
  unfold as_initials at h
  replace h := bs h; obtain ⟨t1, h_t1, h⟩ := h
  have e_t1 := t_as_initials_c1 _ h_t1
  try simp only [q_none, q_some, q_lvL, q_lvV, q_lvV2] at e_t1
  obtain rfl := po h
  unfold m_as_initials m_as_initials_m; walk_at "ev"
noncomputable def first_alone (words : (Lv Tx)) : Option (List Tx) :=
  pure (Lv.mk words.t (cutA words.l none (some (1 : Int)))).l
theorem t_first_alone (words : (Lv Tx)) {out} (h : first_alone words = some out) : m_first_alone [en false words] = .ok (en true out) [] := by
  unfold first_alone at h
  obtain rfl := po h
  unfold m_first_alone m_first_alone_m; walk_at "ev"
noncomputable def last_alone (words : (Lv Tx)) : Option (List Tx) :=
  pure (Lv.mk words.t (cutA words.l (some (-(1) : Int)) none)).l
theorem t_last_alone (words : (Lv Tx)) {out} (h : last_alone words = some out) : m_last_alone [en false words] = .ok (en true out) [] := by
  unfold last_alone at h
  obtain rfl := po h
  unfold m_last_alone m_last_alone_m; walk_at "ev"
noncomputable def bare_e2  (x : Tx) : Option Tx :=
  (ixS x (0 : Int)) >>= fun t2 =>
  pure t2
theorem t_bare_e2  (x : Tx) {out} (h : bare_e2  x = some out) : ∀ y0 : T, lcB [1] (tgN 1) m_bare_z3 m_bare_y3 (en true x) [y0, .unb] = .ok (some (en true out)) [y0, .unb] := by
  intro y0
  unfold bare_e2 at h
  replace h := bs h; obtain ⟨t2, h_t2, h⟩ := h
  obtain rfl := po h
  unfold m_bare_y3 m_bare_z3; walk_at "ev"
noncomputable def bare_c1 (word : Tx) : Option (List Tx) :=
  (letters_of word) >>= fun t1 =>
  (mpO t1 (fun x => bare_e2  x)) >>= fun t3 =>
  pure t3
theorem t_bare_c1 (word : Tx) {out} (h : bare_c1 word = some out) : m_bare_c1 [en true word, .unb] = .ok (en true out) [en true word, .unb] := by
  skip
  unfold bare_c1 at h
  replace h := bs h; obtain ⟨t1, h_t1, h⟩ := h
  have e_t1 := t_letters_of _ h_t1
  try simp only [q_none, q_some, q_lvL, q_lvV, q_lvV2] at e_t1
  replace h := bs h; obtain ⟨t3, h_t3, h⟩ := h
  have k_1 : ∀ y0 : T, lcL [1] (tgN 1) m_bare_z3 m_bare_y3 (t1.map (en true)) [] [y0, .unb] = .ok (en true t3) [y0, .unb] := by
    intro y0
    exact mpO_t (ex := fun x : Tx => en true x) (env := [y0, .unb]) (fun x o ho => t_bare_e2  x ho _) h_t3
  obtain rfl := po h
  unfold m_bare_c1; walk_at "ev"
noncomputable def bare (word : Tx) : Option Tx :=
  (bare_c1 word) >>= fun t1 =>
  (joinO ([] : Tx) t1) >>= fun t2 =>
  pure t2
theorem t_bare (word : Tx) {out} (h : bare word = some out) : m_bare [en true word] = .ok (en true out) [] := by
  unfold bare at h
  replace h := bs h; obtain ⟨t1, h_t1, h⟩ := h
  have e_t1 := t_bare_c1 _ h_t1
  try simp only [q_none, q_some, q_lvL, q_lvV, q_lvV2] at e_t1
  replace h := bs h; obtain ⟨t2, h_t2, h⟩ := h
  obtain rfl := po h
  unfold m_bare m_bare_m; walk_at "ev"
noncomputable def as_bare_e2  (x : Tx) : Option Tx :=
  (bare x) >>= fun t1 =>
  pure t1
theorem t_as_bare_e2  (x : Tx) {out} (h : as_bare_e2  x = some out) : ∀ y0 : T, lcB [1] (tgN 1) m_as_bare_z3 m_as_bare_y3 (en true x) [y0, .unb] = .ok (some (en true out)) [y0, .unb] := by
  intro y0
  unfold as_bare_e2 at h
  replace h := bs h; obtain ⟨t1, h_t1, h⟩ := h
  have e_t1 := t_bare _ h_t1
  try simp only [q_none, q_some, q_lvL, q_lvV, q_lvV2] at e_t1
  obtain rfl := po h
  unfold m_as_bare_y3 m_as_bare_z3; walk_at "ev"
noncomputable def as_bare_c1 (words : (Lv Tx)) : Option (List Tx) :=
  (mpO words.l (fun x => as_bare_e2  x)) >>= fun t2 =>
  pure t2
theorem t_as_bare_c1 (words : (Lv Tx)) {out} (h : as_bare_c1 words = some out) : m_as_bare_c1 [en false words, .unb] = .ok (en true out) [.unb, .unb] := by
  skip
  unfold as_bare_c1 at h
  replace h := bs h; obtain ⟨t2, h_t2, h⟩ := h
  have k_1 : ∀ y0 : T, lcL [1] (tgN 1) m_as_bare_z3 m_as_bare_y3 (words.l.map (en true)) [] [y0, .unb] = .ok (en true t2) [y0, .unb] := by
    intro y0
    exact mpO_t (ex := fun x : Tx => en true x) (env := [y0, .unb]) (fun x o ho => t_as_bare_e2  x ho _) h_t2
  obtain rfl := po h
  unfold m_as_bare_c1; walk_at "ev"
noncomputable def as_bare (words : (Lv Tx)) : Option (List Tx) :=
  (as_bare_c1 words) >>= fun t1 =>
  pure t1
theorem t_as_bare (words : (Lv Tx)) {out} (h : as_bare words = some out) : m_as_bare [en false words] = .ok (en true out) [] := by
  unfold as_bare at h
  replace h := bs h; obtain ⟨t1, h_t1, h⟩ := h
  have e_t1 := t_as_bare_c1 _ h_t1
  try simp only [q_none, q_some, q_lvL, q_lvV, q_lvV2] at e_t1
  obtain rfl := po h
  unfold m_as_bare m_as_bare_m; walk_at "ev"
noncomputable def in_capitals_e2  (x : Tx) : Option Tx :=
  (upS x) >>= fun t1 =>
  pure t1
theorem t_in_capitals_e2  (x : Tx) {out} (h : in_capitals_e2  x = some out) : ∀ y0 : T, lcB [1] (tgN 1) m_in_capitals_z3 m_in_capitals_y3 (en true x) [y0, .unb] = .ok (some (en true out)) [y0, .unb] := by
  intro y0
  unfold in_capitals_e2 at h
  replace h := bs h; obtain ⟨t1, h_t1, h⟩ := h
  obtain rfl := po h
  unfold m_in_capitals_y3 m_in_capitals_z3; walk_at "ev"
noncomputable def in_capitals_c1 (words : (Lv Tx)) : Option (List Tx) :=
  (mpO words.l (fun x => in_capitals_e2  x)) >>= fun t2 =>
  pure t2
theorem t_in_capitals_c1 (words : (Lv Tx)) {out} (h : in_capitals_c1 words = some out) : m_in_capitals_c1 [en false words, .unb] = .ok (en true out) [.unb, .unb] := by
  skip
  unfold in_capitals_c1 at h
  replace h := bs h; obtain ⟨t2, h_t2, h⟩ := h
  have k_1 : ∀ y0 : T, lcL [1] (tgN 1) m_in_capitals_z3 m_in_capitals_y3 (words.l.map (en true)) [] [y0, .unb] = .ok (en true t2) [y0, .unb] := by
    intro y0
    exact mpO_t (ex := fun x : Tx => en true x) (env := [y0, .unb]) (fun x o ho => t_in_capitals_e2  x ho _) h_t2
  obtain rfl := po h
  unfold m_in_capitals_c1; walk_at "ev"
noncomputable def in_capitals (words : (Lv Tx)) : Option (List Tx) :=
  (in_capitals_c1 words) >>= fun t1 =>
  pure t1
theorem t_in_capitals (words : (Lv Tx)) {out} (h : in_capitals words = some out) : m_in_capitals [en false words] = .ok (en true out) [] := by
  unfold in_capitals at h
  replace h := bs h; obtain ⟨t1, h_t1, h⟩ := h
  have e_t1 := t_in_capitals_c1 _ h_t1
  try simp only [q_none, q_some, q_lvL, q_lvV, q_lvV2] at e_t1
  obtain rfl := po h
  unfold m_in_capitals m_in_capitals_m; walk_at "ev"
noncomputable def l_due_e2  (x : (List Tx)) : Option Tx :=
  (atI x (0 : Int)) >>= fun t1 =>
  (catS t1 (['.'] : Tx)) >>= fun t2 =>
  pure t2
theorem t_l_due_e2  (x : (List Tx)) {out} (h : l_due_e2  x = some out) : ∀ y0 y1 y2 : T, lcB [3] (tgN 3) m_l_due_z3 m_l_due_y3 (en false x) [y0, y1, y2, .unb, .unb, .unb] = .ok (some (en true out)) [y0, y1, y2, .unb, .unb, .unb] := by
  intro y0 y1 y2
  unfold l_due_e2 at h
  replace h := bs h; obtain ⟨t1, h_t1, h⟩ := h
  replace h := bs h; obtain ⟨t2, h_t2, h⟩ := h
  obtain rfl := po h
  unfold m_l_due_y3 m_l_due_z3; walk_at "ev"
noncomputable def l_due_c1 (words : (List (List Tx))) : Option (List Tx) :=
  (mpO words (fun x => l_due_e2  x)) >>= fun t3 =>
  pure t3
theorem t_l_due_c1 (words : (List (List Tx))) {out} (h : l_due_c1 words = some out) : ∀ y0 y2 : T, m_l_due_c1 [y0, en false words, y2, .unb, .unb, .unb] = .ok (en true out) [y0, .unb, y2, .unb, .unb, .unb] := by
  intro y0 y2
  unfold l_due_c1 at h
  replace h := bs h; obtain ⟨t3, h_t3, h⟩ := h
  have k_1 : ∀ y0 y1 y2 : T, lcL [3] (tgN 3) m_l_due_z3 m_l_due_y3 (words.map (en false)) [] [y0, y1, y2, .unb, .unb, .unb] = .ok (en true t3) [y0, y1, y2, .unb, .unb, .unb] := by
    intro y0 y1 y2
    exact mpO_t (ex := fun x : (List Tx) => en false x) (env := [y0, y1, y2, .unb, .unb, .unb]) (fun x o ho => t_l_due_e2  x ho _ _ _) h_t3
  obtain rfl := po h
  unfold m_l_due_c1; walk_at "ev"
noncomputable def l_due_e6  (x : Tx) : Option Tx :=
  (ixS x (0 : Int)) >>= fun t2 =>
  pure t2
theorem t_l_due_e6  (x : Tx) {out} (h : l_due_e6  x = some out) : ∀ y0 y1 y2 y3 : T, lcB [5] (tgN 5) m_l_due_z7 m_l_due_y7 (en true x) [y0, y1, y2, y3, .unb, .unb] = .ok (some (en true out)) [y0, y1, y2, y3, .unb, .unb] := by
  intro y0 y1 y2 y3
  unfold l_due_e6 at h
  replace h := bs h; obtain ⟨t2, h_t2, h⟩ := h
  obtain rfl := po h
  unfold m_l_due_y7 m_l_due_z7; walk_at "ev"
noncomputable def l_due_c5 (word : (List Tx)) : Option (List Tx) :=
  (mpO word (fun x => l_due_e6  x)) >>= fun t3 =>
  pure t3
theorem t_l_due_c5 (word : (List Tx)) {out} (h : l_due_c5 word = some out) : ∀ y0 y1 y2 : T, m_l_due_c5 [y0, y1, y2, en false word, .unb, .unb] = .ok (en true out) [y0, y1, y2, .unb, .unb, .unb] := by
  intro y0 y1 y2
  unfold l_due_c5 at h
  replace h := bs h; obtain ⟨t3, h_t3, h⟩ := h
  have k_2 : ∀ y0 y1 y2 y3 : T, lcL [5] (tgN 5) m_l_due_z7 m_l_due_y7 (word.map (en true)) [] [y0, y1, y2, y3, .unb, .unb] = .ok (en true t3) [y0, y1, y2, y3, .unb, .unb] := by
    intro y0 y1 y2 y3
    exact mpO_t (ex := fun x : Tx => en true x) (env := [y0, y1, y2, y3, .unb, .unb]) (fun x o ho => t_l_due_e6  x ho _ _ _ _) h_t3
  obtain rfl := po h
  unfold m_l_due_c5; walk_at "ev"
noncomputable def l_due_e8  (x : (List Tx)) : Option Tx :=
  (l_due_c5 x) >>= fun t2 =>
  (joinO ([] : Tx) t2) >>= fun t3 =>
  pure t3
theorem t_l_due_e8  (x : (List Tx)) {out} (h : l_due_e8  x = some out) : ∀ y0 y1 y2 : T, lcB [3] (tgN 3) m_l_due_z9 m_l_due_y9 (en false x) [y0, y1, y2, .unb, .unb, .unb] = .ok (some (en true out)) [y0, y1, y2, .unb, .unb, .unb] := by
  intro y0 y1 y2
  unfold l_due_e8 at h
  replace h := bs h; obtain ⟨t2, h_t2, h⟩ := h
  have e_t2 := t_l_due_c5 _ h_t2
  try simp only [q_none, q_some, q_lvL, q_lvV, q_lvV2] at e_t2
  replace h := bs h; obtain ⟨t3, h_t3, h⟩ := h
  obtain rfl := po h
  unfold m_l_due_y9 m_l_due_z9; walk_at "ev"
noncomputable def l_due_c4 (words : (List (List Tx))) : Option (List Tx) :=
  (mpO words (fun x => l_due_e8  x)) >>= fun t4 =>
  pure t4
theorem t_l_due_c4 (words : (List (List Tx))) {out} (h : l_due_c4 words = some out) : ∀ y0 y2 : T, m_l_due_c4 [y0, en false words, y2, .unb, .unb, .unb] = .ok (en true out) [y0, .unb, y2, .unb, .unb, .unb] := by
  intro y0 y2
  unfold l_due_c4 at h
  replace h := bs h; obtain ⟨t4, h_t4, h⟩ := h
  have k_3 : ∀ y0 y1 y2 : T, lcL [3] (tgN 3) m_l_due_z9 m_l_due_y9 (words.map (en false)) [] [y0, y1, y2, .unb, .unb, .unb] = .ok (en true t4) [y0, y1, y2, .unb, .unb, .unb] := by
    intro y0 y1 y2
    exact mpO_t (ex := fun x : (List Tx) => en false x) (env := [y0, y1, y2, .unb, .unb, .unb]) (fun x o ho => t_l_due_e8  x ho _ _ _) h_t4
  obtain rfl := po h
  unfold m_l_due_c4; walk_at "ev"
noncomputable def l_due_e12  (x : Tx) : Option Tx :=
  (upS x) >>= fun t3 =>
  pure t3
theorem t_l_due_e12  (x : Tx) {out} (h : l_due_e12  x = some out) : ∀ y0 y1 y2 y3 : T, lcB [5] (tgN 5) m_l_due_z13 m_l_due_y13 (en true x) [y0, y1, y2, y3, .unb, .unb] = .ok (some (en true out)) [y0, y1, y2, y3, .unb, .unb] := by
  intro y0 y1 y2 y3
  unfold l_due_e12 at h
  replace h := bs h; obtain ⟨t3, h_t3, h⟩ := h
  obtain rfl := po h
  unfold m_l_due_y13 m_l_due_z13; walk_at "ev"
noncomputable def l_due_c11 (word : (List Tx)) : Option (List Tx) :=
  (mpO word (fun x => l_due_e12  x)) >>= fun t4 =>
  pure t4
theorem t_l_due_c11 (word : (List Tx)) {out} (h : l_due_c11 word = some out) : ∀ y0 y1 y2 : T, m_l_due_c11 [y0, y1, y2, en false word, .unb, .unb] = .ok (en true out) [y0, y1, y2, .unb, .unb, .unb] := by
  intro y0 y1 y2
  unfold l_due_c11 at h
  replace h := bs h; obtain ⟨t4, h_t4, h⟩ := h
  have k_4 : ∀ y0 y1 y2 y3 : T, lcL [5] (tgN 5) m_l_due_z13 m_l_due_y13 (word.map (en true)) [] [y0, y1, y2, y3, .unb, .unb] = .ok (en true t4) [y0, y1, y2, y3, .unb, .unb] := by
    intro y0 y1 y2 y3
    exact mpO_t (ex := fun x : Tx => en true x) (env := [y0, y1, y2, y3, .unb, .unb]) (fun x o ho => t_l_due_e12  x ho _ _ _ _) h_t4
  obtain rfl := po h
  unfold m_l_due_c11; walk_at "ev"
noncomputable def l_due_e14  (x : (List Tx)) : Option Tx :=
  (l_due_c11 x) >>= fun t3 =>
  (joinO ([] : Tx) t3) >>= fun t4 =>
  pure t4
theorem t_l_due_e14  (x : (List Tx)) {out} (h : l_due_e14  x = some out) : ∀ y0 y1 y2 : T, lcB [3] (tgN 3) m_l_due_z15 m_l_due_y15 (en false x) [y0, y1, y2, .unb, .unb, .unb] = .ok (some (en true out)) [y0, y1, y2, .unb, .unb, .unb] := by
  intro y0 y1 y2
  unfold l_due_e14 at h
  replace h := bs h; obtain ⟨t3, h_t3, h⟩ := h
  have e_t3 := t_l_due_c11 _ h_t3
  try simp only [q_none, q_some, q_lvL, q_lvV, q_lvV2] at e_t3
  replace h := bs h; obtain ⟨t4, h_t4, h⟩ := h
  obtain rfl := po h
  unfold m_l_due_y15 m_l_due_z15; walk_at "ev"
noncomputable def l_due_c10 (words : (List (List Tx))) : Option (List Tx) :=
  (mpO words (fun x => l_due_e14  x)) >>= fun t5 =>
  pure t5
theorem t_l_due_c10 (words : (List (List Tx))) {out} (h : l_due_c10 words = some out) : ∀ y0 y2 : T, m_l_due_c10 [y0, en false words, y2, .unb, .unb, .unb] = .ok (en true out) [y0, .unb, y2, .unb, .unb, .unb] := by
  intro y0 y2
  unfold l_due_c10 at h
  replace h := bs h; obtain ⟨t5, h_t5, h⟩ := h
  have k_5 : ∀ y0 y1 y2 : T, lcL [3] (tgN 3) m_l_due_z15 m_l_due_y15 (words.map (en false)) [] [y0, y1, y2, .unb, .unb, .unb] = .ok (en true t5) [y0, y1, y2, .unb, .unb, .unb] := by
    intro y0 y1 y2
    exact mpO_t (ex := fun x : (List Tx) => en false x) (env := [y0, y1, y2, .unb, .unb, .unb]) (fun x o ho => t_l_due_e14  x ho _ _ _) h_t5
  obtain rfl := po h
  unfold m_l_due_c10; walk_at "ev"
noncomputable def l_due_e17  (x : (List Tx)) : Option Tx :=
  (joinO ([] : Tx) x) >>= fun t4 =>
  pure t4
theorem t_l_due_e17  (x : (List Tx)) {out} (h : l_due_e17  x = some out) : ∀ y0 y1 y2 : T, lcB [3] (tgN 3) m_l_due_z18 m_l_due_y18 (en false x) [y0, y1, y2, .unb, .unb, .unb] = .ok (some (en true out)) [y0, y1, y2, .unb, .unb, .unb] := by
  intro y0 y1 y2
  unfold l_due_e17 at h
  replace h := bs h; obtain ⟨t4, h_t4, h⟩ := h
  obtain rfl := po h
  unfold m_l_due_y18 m_l_due_z18; walk_at "ev"
noncomputable def l_due_c16 (words : (List (List Tx))) : Option (List Tx) :=
  (mpO words (fun x => l_due_e17  x)) >>= fun t5 =>
  pure t5
theorem t_l_due_c16 (words : (List (List Tx))) {out} (h : l_due_c16 words = some out) : ∀ y0 y2 : T, m_l_due_c16 [y0, en false words, y2, .unb, .unb, .unb] = .ok (en true out) [y0, .unb, y2, .unb, .unb, .unb] := by
  intro y0 y2
  unfold l_due_c16 at h
  replace h := bs h; obtain ⟨t5, h_t5, h⟩ := h
  have k_6 : ∀ y0 y1 y2 : T, lcL [3] (tgN 3) m_l_due_z18 m_l_due_y18 (words.map (en false)) [] [y0, y1, y2, .unb, .unb, .unb] = .ok (en true t5) [y0, y1, y2, .unb, .unb, .unb] := by
    intro y0 y1 y2
    exact mpO_t (ex := fun x : (List Tx) => en false x) (env := [y0, y1, y2, .unb, .unb, .unb]) (fun x o ho => t_l_due_e17  x ho _ _ _) h_t5
  obtain rfl := po h
  unfold m_l_due_c16; walk_at "ev"
noncomputable def l_due_e20 (whole : (List Tx)) (x : Int) : Option (Option Tx) :=
  if (decide (x = (0 : Int))) = true then
    (atI whole x) >>= fun t6 =>
    pure (some t6)
  else pure none
theorem t_l_due_e20 (whole : (List Tx)) (x : Int) {out} (h : l_due_e20 whole x = some out) : ∀ y0 y1 : T, lcB [4] (tgN 4) m_l_due_z21 m_l_due_y21 (en true x) [y0, y1, en true whole, .unb, .unb, .unb] = .ok (out.map (en true)) [y0, y1, en true whole, .unb, .unb, .unb] := by
  intro y0 y1
  unfold l_due_e20 at h
  by_cases hc : (decide (x = (0 : Int))) = true
  · rw [if_pos hc] at h
    replace h := bs h; obtain ⟨t6, h_t6, h⟩ := h
    obtain rfl := po h
    unfold m_l_due_y21 m_l_due_z21; walk_at "ev"
  · rw [if_neg hc] at h
    rw [Bool.not_eq_true] at hc
    obtain rfl := po h
    unfold m_l_due_y21 m_l_due_z21; walk_at "ev"
noncomputable def l_due_c19 (whole : (List Tx)) : Option (List Tx) :=
  (rngO (whole.length : Int)) >>= fun t5 =>
  (fmO t5 (fun x => l_due_e20 whole x)) >>= fun t7 =>
  pure t7
theorem t_l_due_c19 (whole : (List Tx)) {out} (h : l_due_c19 whole = some out) : ∀ y0 y1 : T, m_l_due_c19 [y0, y1, en true whole, .unb, .unb, .unb] = .ok (en true out) [y0, y1, en true whole, .unb, .unb, .unb] := by
  intro y0 y1
  unfold l_due_c19 at h
  replace h := bs h; obtain ⟨t5, h_t5, h⟩ := h
  replace h := bs h; obtain ⟨t7, h_t7, h⟩ := h
  have k_7 : ∀ y0 y1 : T, lcL [4] (tgN 4) m_l_due_z21 m_l_due_y21 (t5.map (en true)) [] [y0, y1, en true whole, .unb, .unb, .unb] = .ok (en true t7) [y0, y1, en true whole, .unb, .unb, .unb] := by
    intro y0 y1
    exact fmO_t (ex := fun x : Int => en true x) (env := [y0, y1, en true whole, .unb, .unb, .unb]) (fun x o ho => t_l_due_e20 whole x ho _ _) h_t7
  obtain rfl := po h
  unfold m_l_due_c19; walk_at "ev"
noncomputable def l_due_e23 (whole : (List Tx)) (x : Int) : Option (Option Tx) :=
  if (decide (x = ((whole.length : Int) - (1 : Int)))) = true then
    (atI whole x) >>= fun t7 =>
    pure (some t7)
  else pure none
theorem t_l_due_e23 (whole : (List Tx)) (x : Int) {out} (h : l_due_e23 whole x = some out) : ∀ y0 y1 : T, lcB [4] (tgN 4) m_l_due_z24 m_l_due_y24 (en true x) [y0, y1, en true whole, .unb, .unb, .unb] = .ok (out.map (en true)) [y0, y1, en true whole, .unb, .unb, .unb] := by
  intro y0 y1
  unfold l_due_e23 at h
  by_cases hc : (decide (x = ((whole.length : Int) - (1 : Int)))) = true
  · rw [if_pos hc] at h
    replace h := bs h; obtain ⟨t7, h_t7, h⟩ := h
    obtain rfl := po h
    unfold m_l_due_y24 m_l_due_z24; walk_at "ev"
  · rw [if_neg hc] at h
    rw [Bool.not_eq_true] at hc
    obtain rfl := po h
    unfold m_l_due_y24 m_l_due_z24; walk_at "ev"
noncomputable def l_due_c22 (whole : (List Tx)) : Option (List Tx) :=
  (rngO (whole.length : Int)) >>= fun t6 =>
  (fmO t6 (fun x => l_due_e23 whole x)) >>= fun t8 =>
  pure t8
theorem t_l_due_c22 (whole : (List Tx)) {out} (h : l_due_c22 whole = some out) : ∀ y0 y1 : T, m_l_due_c22 [y0, y1, en true whole, .unb, .unb, .unb] = .ok (en true out) [y0, y1, en true whole, .unb, .unb, .unb] := by
  intro y0 y1
  unfold l_due_c22 at h
  replace h := bs h; obtain ⟨t6, h_t6, h⟩ := h
  replace h := bs h; obtain ⟨t8, h_t8, h⟩ := h
  have k_8 : ∀ y0 y1 : T, lcL [4] (tgN 4) m_l_due_z24 m_l_due_y24 (t6.map (en true)) [] [y0, y1, en true whole, .unb, .unb, .unb] = .ok (en true t8) [y0, y1, en true whole, .unb, .unb, .unb] := by
    intro y0 y1
    exact fmO_t (ex := fun x : Int => en true x) (env := [y0, y1, en true whole, .unb, .unb, .unb]) (fun x o ho => t_l_due_e23 whole x ho _ _) h_t8
  obtain rfl := po h
  unfold m_l_due_c22; walk_at "ev"
noncomputable def l_due (mode : Tx) (words : (List (List Tx))) : Option (List Tx) :=
  if (decide (mode = c_initials)) = true then
    (l_due_c1 words) >>= fun t1 =>
    pure t1
  else
    if (decide (mode = c_bare)) = true then
      (l_due_c4 words) >>= fun t2 =>
      pure t2
    else
      if (decide (mode = c_high)) = true then
        (l_due_c10 words) >>= fun t3 =>
        pure t3
      else
        (l_due_c16 words) >>= fun t4 =>
        if (decide (mode = c_first)) = true then
          (l_due_c19 t4) >>= fun t5 =>
          pure t5
        else
          if (decide (mode = c_last)) = true then
            (l_due_c22 t4) >>= fun t6 =>
            pure t6
          else
            pure t4
theorem t_l_due (mode : Tx) (words : (List (List Tx))) {out} (h : l_due mode words = some out) : m_l_due [en true mode, en false words] = .ok (en true out) [] := by
  unfold l_due at h
  by_cases hc5 : (decide (mode = c_initials)) = true
  · rw [if_pos hc5] at h
    replace h := bs h; obtain ⟨t1, h_t1, h⟩ := h
    have e_t1 := t_l_due_c1 _ h_t1
    try simp only [q_none, q_some, q_lvL, q_lvV, q_lvV2] at e_t1
    obtain rfl := po h
    unfold m_l_due m_l_due_m; walk_at "ev"
  · rw [if_neg hc5] at h
    rw [Bool.not_eq_true] at hc5
    by_cases hc4 : (decide (mode = c_bare)) = true
    · rw [if_pos hc4] at h
      replace h := bs h; obtain ⟨t2, h_t2, h⟩ := h
      have e_t2 := t_l_due_c4 _ h_t2
      try simp only [q_none, q_some, q_lvL, q_lvV, q_lvV2] at e_t2
      obtain rfl := po h
      unfold m_l_due m_l_due_m; walk_at "ev"
    · rw [if_neg hc4] at h
      rw [Bool.not_eq_true] at hc4
      by_cases hc3 : (decide (mode = c_high)) = true
      · rw [if_pos hc3] at h
        replace h := bs h; obtain ⟨t3, h_t3, h⟩ := h
        have e_t3 := t_l_due_c10 _ h_t3
        try simp only [q_none, q_some, q_lvL, q_lvV, q_lvV2] at e_t3
        obtain rfl := po h
        unfold m_l_due m_l_due_m; walk_at "ev"
      · rw [if_neg hc3] at h
        rw [Bool.not_eq_true] at hc3
        replace h := bs h; obtain ⟨t4, h_t4, h⟩ := h
        have e_t4 := t_l_due_c16 _ h_t4
        try simp only [q_none, q_some, q_lvL, q_lvV, q_lvV2] at e_t4
        by_cases hc2 : (decide (mode = c_first)) = true
        · rw [if_pos hc2] at h
          replace h := bs h; obtain ⟨t5, h_t5, h⟩ := h
          have e_t5 := t_l_due_c19 _ h_t5
          try simp only [q_none, q_some, q_lvL, q_lvV, q_lvV2] at e_t5
          obtain rfl := po h
          unfold m_l_due m_l_due_m; walk_at "ev"
        · rw [if_neg hc2] at h
          rw [Bool.not_eq_true] at hc2
          by_cases hc1 : (decide (mode = c_last)) = true
          · rw [if_pos hc1] at h
            replace h := bs h; obtain ⟨t6, h_t6, h⟩ := h
            have e_t6 := t_l_due_c22 _ h_t6
            try simp only [q_none, q_some, q_lvL, q_lvV, q_lvV2] at e_t6
            obtain rfl := po h
            unfold m_l_due m_l_due_m; walk_at "ev"
          · rw [if_neg hc1] at h
            rw [Bool.not_eq_true] at hc1
            obtain rfl := po h
            unfold m_l_due m_l_due_m; walk_at "ev"
noncomputable def l_bad (box : (List Int)) (mode : Tx) : Option (Yv × (List Int)) :=
  (lnS mode) >>= fun t1 =>
  (l_take box t1) >>= fun t2 =>
  (cutS mode none (some t2.1)) >>= fun t3 =>
  (cutS mode (some (t2.1 + (1 : Int))) none) >>= fun t4 =>
  (catS t3 t4) >>= fun t5 =>
  (catS t3 ([' '] : Tx)) >>= fun t6 =>
  (cutS mode (some t2.1) none) >>= fun t7 =>
  (catS t6 t7) >>= fun t8 =>
  (ixS mode t2.1) >>= fun t9 =>
  (upS t9) >>= fun t10 =>
  (catS t3 t10) >>= fun t11 =>
  (catS t11 t4) >>= fun t12 =>
  (catS mode (['s'] : Tx)) >>= fun t13 =>
  (catL (([t5, t8, t12] : (List Tx)).map Yv.of) ([(Yv.of ([] : Tx)), (Yv.of t13), (Yv.of ()), (Yv.of (0 : Int)), (Yv.of true), (Yv.of ([mode] : (List Tx))), (Yv.of (P1.mk mode)), (Yv.of (⟨[]⟩ : (Dc Tx Unit))), (Yv.of (mgD [(mode, mode)])), (Yv.of c_any)] : List Yv)) >>= fun t14 =>
  (l_take t2.2 (13 : Int)) >>= fun t15 =>
  (atI t14 t15.1) >>= fun t16 =>
  pure (t16, t15.2)
theorem t_l_bad (box : (List Int)) (mode : Tx) {out} (h : l_bad box mode = some out) : m_l_bad [en true box, en true mode] = .ok (en true out.1) [en true out.2] := by
  unfold l_bad at h
  replace h := bs h; obtain ⟨t1, h_t1, h⟩ := h
  replace h := bs h; obtain ⟨t2, h_t2, h⟩ := h
  have e_t2 := t_l_take _ _ h_t2
  try simp only [q_none, q_some, q_lvL, q_lvV, q_lvV2] at e_t2
  replace h := bs h; obtain ⟨t3, h_t3, h⟩ := h
  replace h := bs h; obtain ⟨t4, h_t4, h⟩ := h
  replace h := bs h; obtain ⟨t5, h_t5, h⟩ := h
  replace h := bs h; obtain ⟨t6, h_t6, h⟩ := h
  replace h := bs h; obtain ⟨t7, h_t7, h⟩ := h
  replace h := bs h; obtain ⟨t8, h_t8, h⟩ := h
  replace h := bs h; obtain ⟨t9, h_t9, h⟩ := h
  replace h := bs h; obtain ⟨t10, h_t10, h⟩ := h
  replace h := bs h; obtain ⟨t11, h_t11, h⟩ := h
  replace h := bs h; obtain ⟨t12, h_t12, h⟩ := h
  have k_1 : m_l_bad_d1 [en true t5, en true t8, en true t12] = .ok (en true ([t5, t8, t12] : (List Tx))) [] := dsp_l (show (3 : Nat) ≤ lim by decide) rfl
  replace h := bs h; obtain ⟨t13, h_t13, h⟩ := h
  have k_2 : m_l_bad_d2 [en true mode] = .ok (en true ([mode] : (List Tx))) [] := dsp_l (show (1 : Nat) ≤ lim by decide) rfl
  have k_3 : m_l_bad_d3 [en true mode] = .ok (en true (P1.mk mode)) [] := dsp_t (show (1 : Nat) ≤ lim by decide) rfl
  have k_4 : ∀ e, m_l_bad_d4 e = .ok (en true (⟨[]⟩ : (Dc Tx Unit))) e := fun _ => rfl
  have k_5 := fun o => q_yof o ([] : Tx)
  try simp only [q_none, q_some, q_lvL, q_lvV, q_lvV2] at k_5
  have k_6 := fun o => q_yof o t13
  try simp only [q_none, q_some, q_lvL, q_lvV, q_lvV2] at k_6
  have k_7 := fun o => q_yof o ()
  try simp only [q_none, q_some, q_lvL, q_lvV, q_lvV2] at k_7
  have k_8 := fun o => q_yof o (0 : Int)
  try simp only [q_none, q_some, q_lvL, q_lvV, q_lvV2] at k_8
  have k_9 := fun o => q_yof o true
  try simp only [q_none, q_some, q_lvL, q_lvV, q_lvV2] at k_9
  have k_10 := fun o => q_yof o ([mode] : (List Tx))
  try simp only [q_none, q_some, q_lvL, q_lvV, q_lvV2] at k_10
  have k_11 := fun o => q_yof o (P1.mk mode)
  try simp only [q_none, q_some, q_lvL, q_lvV, q_lvV2] at k_11
  have k_12 := fun o => q_yof o (⟨[]⟩ : (Dc Tx Unit))
  try simp only [q_none, q_some, q_lvL, q_lvV, q_lvV2] at k_12
  have k_13 := fun o => q_yof o (mgD [(mode, mode)])
  try simp only [q_none, q_some, q_lvL, q_lvV, q_lvV2] at k_13
  have k_14 := fun o => q_yof o c_any
  try simp only [q_none, q_some, q_lvL, q_lvV, q_lvV2] at k_14
  have k_15 : m_l_bad_d5 [en true ([] : Tx), en true t13, en true (), en true (0 : Int), en true true, en true ([mode] : (List Tx)), en true (P1.mk mode), en true (⟨[]⟩ : (Dc Tx Unit)), en true (mgD [(mode, mode)]), en true c_any] = .ok (en true ([(Yv.of ([] : Tx)), (Yv.of t13), (Yv.of ()), (Yv.of (0 : Int)), (Yv.of true), (Yv.of ([mode] : (List Tx))), (Yv.of (P1.mk mode)), (Yv.of (⟨[]⟩ : (Dc Tx Unit))), (Yv.of (mgD [(mode, mode)])), (Yv.of c_any)] : List Yv)) [] := dsp_l (show (10 : Nat) ≤ lim by decide) (by simp only [en_ly, List.map_cons, List.map_nil, q_yof])
  replace h := bs h; obtain ⟨t14, h_t14, h⟩ := h
  have k_16 := fun o => y_addL h_t14 o
  try simp only [q_none, q_some, q_lvL, q_lvV, q_lvV2] at k_16
  replace h := bs h; obtain ⟨t15, h_t15, h⟩ := h
  have e_t15 := t_l_take _ _ h_t15
  try simp only [q_none, q_some, q_lvL, q_lvV, q_lvV2] at e_t15
  replace h := bs h; obtain ⟨t16, h_t16, h⟩ := h
  obtain rfl := po h
  unfold m_l_bad m_l_bad_m; walk_at "ev"
noncomputable def mode_of_1 (mode : (Lb Uv)) : Option (Ee ⊕ Fu) :=
  (uIs "str" mode.x) >>= fun t1 =>
  if (!t1) = true then
    pure (.inl (Ee.mk "NoMode" (Fv.of (Pv.mk 0 mode.v))))
  else
    (asS mode.x) >>= fun t2 =>
    match wgO mds_MODES t2 with
    | some f3 =>
      pure (.inr f3)
    | none =>
      pure (.inl (Ee.mk "NoMode" (Fv.of (Pv.mk 0 (Lb.mk mode.v t2).v))))
theorem t_mode_of_1 (mode : (Lb Uv)) {out} (h : mode_of_1 mode = some out) : m_mode_of_1 [(.atv mode.v (en true mode.x))] = frX (fun out => .ok (en true out) []) out := by
  unfold mode_of_1 at h
  replace h := bs h; obtain ⟨t1, h_t1, h⟩ := h
  have k_1 := fun o => q_uIs2 h_t1 o
  try simp only [q_none, q_some, q_lvL, q_lvV, q_lvV2] at k_1
  have k_2 := fun o => q_uIs h_t1 o
  try simp only [q_none, q_some, q_lvL, q_lvV, q_lvV2] at k_2
  by_cases hc1 : (!t1) = true
  · rw [if_pos hc1] at h
    have k_3 := fun o => q_fof o (Pv.mk 0 mode.v)
    try simp only [q_none, q_some, q_lvL, q_lvV, q_lvV2] at k_3
    obtain rfl := po h
    unfold m_mode_of_1 m_mode_of_1_m; walk_at "ev"
  · rw [if_neg hc1] at h
    rw [Bool.not_eq_true] at hc1
    replace h := bs h; obtain ⟨t2, h_t2, h⟩ := h
    have k_4 := fun o => asS_e h_t2 o
    try simp only [q_none, q_some, q_lvL, q_lvV, q_lvV2] at k_4
    try simp only [k_4] at *
    cases hk_f3 : wgO mds_MODES t2 with
    | some f3 =>
      rw [hk_f3] at h
      dsimp only at h
      have kk_f3 := lk_s hk_f3
      obtain rfl := po h
      unfold m_mode_of_1 m_mode_of_1_m; walk_at "ev"
    | none =>
      rw [hk_f3] at h
      dsimp only at h
      have kk_f3 := lk_n hk_f3
      have k_5 := fun o => q_fof o (Pv.mk 0 (Lb.mk mode.v t2).v)
      try simp only [q_none, q_some, q_lvL, q_lvV, q_lvV2] at k_5
      obtain rfl := po h
      unfold m_mode_of_1 m_mode_of_1_m; walk_at "ev"
noncomputable def l_refused_q3 (thing : (Lb Yv)) : Option (Unit ⊕ (Ee ⊕ (Bool × Yv))) :=
  (mode_of_1 (Lb.mk thing.v (Uv.of thing.x))) >>= fun t1 =>
  elimE t1 (fun e => pure (.inr (.inl e))) fun t2 =>
  pure (.inl ())
theorem t_l_refused_q3 (thing : (Lb Yv)) {out} (h : l_refused_q3 thing = some out) : m_l_refused_q3 [(.atv thing.v (en true thing.x)), .unb] = exR (fun s => [(.atv thing.v (en true thing.x)), .unb]) (fun e => match e with | .inl e => .exc e.C (en true e.x) [(.atv thing.v (en true thing.x)), .unb] | .inr e => .ret (en true e.1) [(.atv thing.v (en true e.2)), .unb]) out := by
  skip
  unfold l_refused_q3 at h
  have k_1 := fun o => q_of o thing.x
  try simp only [q_none, q_some, q_lvL, q_lvV, q_lvV2] at k_1
  replace h := bs h; obtain ⟨t1, h_t1, h⟩ := h
  have e_t1 := t_mode_of_1 _ h_t1
  try simp only [q_none, q_some, q_lvL, q_lvV, q_lvV2] at e_t1
  try simp only [k_1] at e_t1
  rcases t1 with e_t2 | t2
  · simp only [q_frXl] at e_t1
    dsimp only [elimE] at h
    obtain rfl := po h
    unfold m_l_refused_q3; walk_at "ev"
  simp only [q_frXr] at e_t1
  dsimp only [elimE] at h
  obtain rfl := po h
  unfold m_l_refused_q3; walk_at "ev"
noncomputable def l_refused_i4 (thing : (Lb Yv)) : Option (Lb Yv) :=
  (yIs "list" thing.x) >>= fun t4 =>
  if t4 = true then
    (apY thing.x c_more) >>= fun t5 =>
    pure (Lb.mk thing.v t5)
  else
    pure thing
theorem t_l_refused_i4 (thing : (Lb Yv)) {out} (h : l_refused_i4 thing = some out) : ∀ y1 : T, m_l_refused_i4 [(.atv thing.v (en true thing.x)), y1] = .nxt [(.atv out.v (en true out.x)), y1] := by
  intro y1
  unfold l_refused_i4 at h
  replace h := bs h; obtain ⟨t4, h_t4, h⟩ := h
  have k_2 := fun o => q_yIs h_t4 o
  try simp only [q_none, q_some, q_lvL, q_lvV, q_lvV2] at k_2
  by_cases hc : t4 = true
  · rw [if_pos hc] at h
    replace h := bs h; obtain ⟨t5, h_t5, h⟩ := h
    have k_3 := chkY h_t5
    try simp only [q_none, q_some, q_lvL, q_lvV, q_lvV2] at k_3
    have k_4 := q_apY h_t5
    try simp only [q_none, q_some, q_lvL, q_lvV, q_lvV2] at k_4
    obtain rfl := po h
    unfold m_l_refused_i4; walk_at "ev"
  · rw [if_neg hc] at h
    rw [Bool.not_eq_true] at hc
    obtain rfl := po h
    unfold m_l_refused_i4; walk_at "ev"
noncomputable def l_refused_w2_0 (e : Ee) (thing : (Lb Yv)) : Option (Bool × Yv) :=
  (l_refused_i4 thing) >>= fun t6 =>
  (chkC e "NoMode") >>= fun t7 =>
  (rpT (T.subP 0 thing.v (en false t6.x) (en true e.x))) >>= fun t8 =>
  (rpO t6.x) >>= fun t9 =>
  pure ((decide (t8 = t9)), t6.x)
theorem t_l_refused_w2_0 (e : Ee) (thing : (Lb Yv)) {out} (h : l_refused_w2_0 e thing = some out) : m_l_refused_w2_0 [(.atv thing.v (en true thing.x)), (.exn e.C (en true e.x))] = (fun e => .ret (en true e.1) [(.atv thing.v (en true e.2)), .unb]) out := by
  skip
  unfold l_refused_w2_0 at h
  replace h := bs h; obtain ⟨t6, h_t6, h⟩ := h
  have e_t6 := t_l_refused_i4 _ h_t6
  try simp only [q_none, q_some, q_lvL, q_lvV, q_lvV2] at e_t6
  have kv_t6 : t6.v = thing.v := by
    have hh := h_t6
    unfold l_refused_i4 at hh
    repeat' (first | (replace hh := bs hh; obtain ⟨_, _, hh⟩ := hh) | split at hh)
    all_goals (obtain rfl := po hh; rfl)
  try simp only [kv_t6] at e_t6
  replace h := bs h; obtain ⟨t7, h_t7, h⟩ := h
  have k_5 := chkC_e h_t7
  try simp only [q_none, q_some, q_lvL, q_lvV, q_lvV2] at k_5
  replace h := bs h; obtain ⟨t8, h_t8, h⟩ := h
  have k_6 := q_rpT (T.subP 0 thing.v (en false t6.x) (en true e.x))
  try simp only [q_none, q_some, q_lvL, q_lvV, q_lvV2] at k_6
  have k_7 : ∀ y1 : T, rprK [0] [(0, 0)] (.t (en true e.x)) [(.atv thing.v (en true t6.x)), y1] = .ok (en true t8) [(.atv thing.v (en true t6.x)), y1] := by
    intro y1
    refine rprK_t (stI_e (ts := [(.atv thing.v (en true t6.x))]) (by walk_at "ev"; rfl) ?_)
    walk_at "ev"
  replace h := bs h; obtain ⟨t9, h_t9, h⟩ := h
  obtain rfl := po h
  unfold m_l_refused_w2_0; walk_at "ev"
noncomputable def l_refused_w2_1 (e : Ee) (thing : (Lb Yv)) : Option (Bool × Yv) :=
  pure (false, thing.x)
theorem t_l_refused_w2_1 (e : Ee) (thing : (Lb Yv)) {out} (h : l_refused_w2_1 e thing = some out) : m_l_refused_w2_1 [(.atv thing.v (en true thing.x)), .unb] = (fun e => .ret (en true e.1) [(.atv thing.v (en true e.2)), .unb]) out := by
  skip
  unfold l_refused_w2_1 at h
  obtain rfl := po h
  unfold m_l_refused_w2_1; walk_at "ev"
noncomputable def l_refused_w2_2 (e : Ee) (thing : (Lb Yv)) : Option (Bool × Yv) :=
  pure (false, thing.x)
theorem t_l_refused_w2_2 (e : Ee) (thing : (Lb Yv)) {out} (h : l_refused_w2_2 e thing = some out) : m_l_refused_w2_2 [(.atv thing.v (en true thing.x)), .unb] = (fun e => .ret (en true e.1) [(.atv thing.v (en true e.2)), .unb]) out := by
  skip
  unfold l_refused_w2_2 at h
  obtain rfl := po h
  unfold m_l_refused_w2_2; walk_at "ev"
noncomputable def l_refused_q2 (thing : (Lb Yv)) : Option (Unit ⊕ (Bool × Yv)) :=
  (l_refused_q3 thing) >>= fun t3 =>
  match t3 with
  | .inl s3 => pure (.inl ())
  | .inr (.inr v) => pure (.inr v)
  | .inr (.inl e) =>
    (subX e.C "NoMode") >>= fun b =>
    if b = true then
      (l_refused_w2_0 e thing) >>= fun v => pure (.inr v)
    else
      (subX e.C "CustomsError") >>= fun b =>
      if b = true then
        (l_refused_w2_1 e thing) >>= fun v => pure (.inr v)
      else
        (subX e.C "Unknown") >>= fun b =>
        if b = true then
          (l_refused_w2_2 e thing) >>= fun v => pure (.inr v)
        else
          none
theorem t_l_refused_q2 (thing : (Lb Yv)) {out} (h : l_refused_q2 thing = some out) : m_l_refused_q2 [(.atv thing.v (en true thing.x)), .unb] = exR (fun s => [(.atv thing.v (en true thing.x)), .unb]) (fun e => .ret (en true e.1) [(.atv thing.v (en true e.2)), .unb]) out := by
  skip
  unfold l_refused_q2 at h
  replace h := bs h; obtain ⟨t3, h_t3, h⟩ := h
  have e_t3 := t_l_refused_q3 _ h_t3
  try simp only [q_none, q_some, q_lvL, q_lvV, q_lvV2] at e_t3
  rcases t3 with s3 | e | v
  · dsimp only at h
    obtain rfl := po h
    unfold m_l_refused_q2; walk_at "ev"
  · dsimp only at h
    replace h := bs h; obtain ⟨b, h_b, h⟩ := h
    cases b with
    | true =>
      rw [if_pos rfl] at h
      replace h := bs h; obtain ⟨v, h_v, h⟩ := h
      have e_v := t_l_refused_w2_0 e _ h_v
      obtain rfl := po h
      unfold m_l_refused_q2; walk_at "ev"
    | false =>
      rw [if_neg (by simp)] at h
      replace h := bs h; obtain ⟨b, h_b, h⟩ := h
      cases b with
      | true =>
        rw [if_pos rfl] at h
        replace h := bs h; obtain ⟨v, h_v, h⟩ := h
        have e_v := t_l_refused_w2_1 e _ h_v
        obtain rfl := po h
        unfold m_l_refused_q2; walk_at "ev"
      | false =>
        rw [if_neg (by simp)] at h
        replace h := bs h; obtain ⟨b, h_b, h⟩ := h
        cases b with
        | true =>
          rw [if_pos rfl] at h
          replace h := bs h; obtain ⟨v, h_v, h⟩ := h
          have e_v := t_l_refused_w2_2 e _ h_v
          obtain rfl := po h
          unfold m_l_refused_q2; walk_at "ev"
        | false =>
          rw [if_neg (by simp)] at h
          cases h
  · dsimp only at h
    obtain rfl := po h
    unfold m_l_refused_q2; walk_at "ev"
noncomputable def l_refused_q1 (thing : (Lb Yv)) : Option (Unit ⊕ (Bool × Yv)) :=
  (l_refused_q2 thing) >>= fun t10 =>
  match t10 with
  | .inr e => pure (.inr e)
  | .inl s2 =>
    pure (.inr (false, thing.x))
theorem t_l_refused_q1 (thing : (Lb Yv)) {out} (h : l_refused_q1 thing = some out) : m_l_refused_q1 [(.atv thing.v (en true thing.x)), .unb] = exR (fun s => [.unb, .unb]) (fun e => .ret (en true e.1) [(.atv thing.v (en true e.2)), .unb]) out := by
  skip
  unfold l_refused_q1 at h
  replace h := bs h; obtain ⟨t10, h_t10, h⟩ := h
  have e_t10 := t_l_refused_q2 _ h_t10
  try simp only [q_none, q_some, q_lvL, q_lvV, q_lvV2] at e_t10
  cases t10 with
  | inr e =>
    dsimp only at h
    obtain rfl := po h
    unfold m_l_refused_q1; walk_at "ev"
  | inl s2 =>
    dsimp only at h
    obtain rfl := po h
    unfold m_l_refused_q1; walk_at "ev"
noncomputable def l_refused_v5 (thing : Yv) : Option (Unit ⊕ (Bool × Yv)) :=
  labO fun v => l_refused_q1 (Lb.mk v thing)
theorem t_l_refused_v5 (thing : Yv) {out} (h : l_refused_v5 thing = some out) : m_l_refused_v5 [en true thing, .unb] = exR (fun s => [.unb, .unb]) (fun e => .ret (en true e.1) [en true e.2, .unb]) out := by
  skip
  unfold l_refused_v5 at h
  have k := fun v => t_l_refused_q1 _ (labO_all h v)
  refine labS_e (t := en true thing) rfl (q_v _ _) (fun v => ?_)
  have kv := k v
  rcases out with s | e
  · walk_at "ev"
  · walk_at "ev"
noncomputable def l_refused (thing : Yv) : Option (Bool × Yv) :=
  (l_refused_v5 thing) >>= fun t11 =>
  match t11 with
  | .inr e => pure e
  | .inl _ =>
    none
theorem t_l_refused (thing : Yv) {out} (h : l_refused thing = some out) : m_l_refused [en true thing] = .ok (en true out.1) [en true out.2] := by
  unfold l_refused at h
  replace h := bs h; obtain ⟨t11, h_t11, h⟩ := h
  have e_t11 := t_l_refused_v5 _ h_t11
  try simp only [q_none, q_some, q_lvL, q_lvV, q_lvV2] at e_t11
  cases t11 with
  | inr e =>
    dsimp only at h
    obtain rfl := po h
    unfold m_l_refused m_l_refused_m; walk_at "ev"
  | inl _ =>
    dsimp only at h
    cases h
noncomputable def law_e4  (x : Tx) : Option Fu :=
  (mode_of x) >>= fun t1 =>
  pure t1
theorem t_law_e4  (x : Tx) {out} (h : law_e4  x = some out) : ∀ y0 y1 y2 y3 y4 y5 y6 y7 y8 y10 y11 y12 : T, lcB [9] (tgN 9) m_law_z5 m_law_y5 (en true x) [y0, y1, y2, y3, y4, y5, y6, y7, y8, .unb, y10, y11, y12, .unb] = .ok (some (en true out)) [y0, y1, y2, y3, y4, y5, y6, y7, y8, .unb, y10, y11, y12, .unb] := by
  intro y0 y1 y2 y3 y4 y5 y6 y7 y8 y10 y11 y12
  unfold law_e4 at h
  replace h := bs h; obtain ⟨t1, h_t1, h⟩ := h
  have e_t1 := t_mode_of _ h_t1
  try simp only [q_none, q_some, q_lvL, q_lvV, q_lvV2] at e_t1
  obtain rfl := po h
  unfold m_law_y5 m_law_z5; walk_at "ev"
noncomputable def law_c3 (modes : (List Tx)) : Option (List Fu) :=
  (mpO modes (fun x => law_e4  x)) >>= fun t2 =>
  pure t2
theorem t_law_c3 (modes : (List Tx)) {out} (h : law_c3 modes = some out) : ∀ y0 y2 y3 y4 y5 y6 y7 y8 y9 y10 y11 y12 : T, m_law_c3 [y0, en false modes, y2, y3, y4, y5, y6, y7, y8, y9, y10, y11, y12, .unb] = .ok (en true out) [y0, en false modes, y2, y3, y4, y5, y6, y7, y8, .unb, y10, y11, y12, .unb] := by
  intro y0 y2 y3 y4 y5 y6 y7 y8 y9 y10 y11 y12
  unfold law_c3 at h
  replace h := bs h; obtain ⟨t2, h_t2, h⟩ := h
  have k_2 : ∀ y0 y1 y2 y3 y4 y5 y6 y7 y8 y10 y11 y12 : T, lcL [9] (tgN 9) m_law_z5 m_law_y5 (modes.map (en true)) [] [y0, y1, y2, y3, y4, y5, y6, y7, y8, .unb, y10, y11, y12, .unb] = .ok (en true t2) [y0, y1, y2, y3, y4, y5, y6, y7, y8, .unb, y10, y11, y12, .unb] := by
    intro y0 y1 y2 y3 y4 y5 y6 y7 y8 y10 y11 y12
    exact mpO_t (ex := fun x : Tx => en true x) (env := [y0, y1, y2, y3, y4, y5, y6, y7, y8, .unb, y10, y11, y12, .unb]) (fun x o ho => t_law_e4  x ho _ _ _ _ _ _ _ _ _ _ _ _) h_t2
  obtain rfl := po h
  unfold m_law_c3; walk_at "ev"
noncomputable def law_n2 (script : Scr) (modes : (List Tx)) : Option (List Fu) :=
  (law_c3 modes) >>= fun t1 =>
  pure t1
theorem t_law_n2 (script : Scr) (modes : (List Tx)) {out} (h : law_n2 script modes = some out) : ∀ y2 y3 y4 y5 y6 y7 y8 y9 y10 y11 y12 : T, m_law_n2 [en true script, en true modes, y2, y3, y4, y5, y6, y7, y8, y9, y10, y11, y12, .unb] = .nxt [en true script, en true modes, en true out, .unb, .unb, .unb, .unb, .unb, .unb, .unb, .unb, .unb, .unb, .unb] := by
  intro y2 y3 y4 y5 y6 y7 y8 y9 y10 y11 y12
  unfold law_n2 at h
  replace h := bs h; obtain ⟨t1, h_t1, h⟩ := h
  have e_t1 := t_law_c3 _ h_t1
  try simp only [q_none, q_some, q_lvL, q_lvV, q_lvV2] at e_t1
  obtain rfl := po h
  unfold m_law_n2
  refine (lend_e (ts := [en true script, en true modes]) (os := [en true t1]) (by walk_at "ev"; rfl) (by walk_at "ev"; rfl) (by walk_at "ev"; rfl) (by rw [freshA_all]; walk_at "ev")).trans ?_
  walk_at "ev"
noncomputable def law_e9 (box : (List Int)) (x : Int) : Option ((List Tx) × (List Int)) :=
  (l_drawn box) >>= fun t10 =>
  pure (t10.1, t10.2)
theorem t_law_e9 (box : (List Int)) (x : Int) {out} (h : law_e9 box x = some out) : ∀ y0 y1 y2 y3 y5 y6 y7 y9 y10 y11 y12 : T, lcB [8] (tgN 8) m_law_z10 m_law_y10 (en true x) [y0, y1, y2, y3, en true box, y5, y6, y7, .unb, y9, y10, y11, y12, .unb] = .ok (some (en true out.1)) [y0, y1, y2, y3, en true out.2, y5, y6, y7, .unb, y9, y10, y11, y12, .unb] := by
  intro y0 y1 y2 y3 y5 y6 y7 y9 y10 y11 y12
  unfold law_e9 at h
  replace h := bs h; obtain ⟨t10, h_t10, h⟩ := h
  have e_t10 := t_l_drawn _ h_t10
  try simp only [q_none, q_some, q_lvL, q_lvV, q_lvV2] at e_t10
  obtain rfl := po h
  unfold m_law_y10 m_law_z10; walk_at "ev"
noncomputable def law_c8 (box : (List Int)) (many : Int) : Option ((List (List Tx)) × (List Int)) :=
  (l_take box many) >>= fun t8 =>
  (rngO t8.1) >>= fun t9 =>
  (mpS t9 t8.2 (fun x s => law_e9 s x)) >>= fun t11 =>
  pure (t11.1, t11.2)
theorem t_law_c8 (box : (List Int)) (many : Int) {out} (h : law_c8 box many = some out) : ∀ y0 y1 y2 y3 y6 y7 y8 y9 y10 y11 y12 : T, m_law_c8 [y0, y1, y2, y3, en true box, en true many, y6, y7, y8, y9, y10, y11, y12, .unb] = .ok (en true out.1) [y0, y1, y2, y3, en true out.2, en true many, y6, y7, .unb, y9, y10, y11, y12, .unb] := by
  intro y0 y1 y2 y3 y6 y7 y8 y9 y10 y11 y12
  unfold law_c8 at h
  replace h := bs h; obtain ⟨t8, h_t8, h⟩ := h
  have e_t8 := t_l_take _ _ h_t8
  try simp only [q_none, q_some, q_lvL, q_lvV, q_lvV2] at e_t8
  replace h := bs h; obtain ⟨t9, h_t9, h⟩ := h
  replace h := bs h; obtain ⟨t11, h_t11, h⟩ := h
  have k_4 : ∀ y0 y1 y2 y3 y5 y6 y7 y9 y10 y11 y12 : T, lcL [8] (tgN 8) m_law_z10 m_law_y10 (t9.map (en true)) [] [y0, y1, y2, y3, en true t8.2, y5, y6, y7, .unb, y9, y10, y11, y12, .unb] = .ok (en true t11.1) [y0, y1, y2, y3, en true t11.2, y5, y6, y7, .unb, y9, y10, y11, y12, .unb] := by
    intro y0 y1 y2 y3 y5 y6 y7 y9 y10 y11 y12
    exact mpS_t (ex := fun x : Int => en true x) (enc := fun s => [y0, y1, y2, y3, en true s, y5, y6, y7, .unb, y9, y10, y11, y12, .unb]) (fun x s o s' ho => t_law_e9 s x ho _ _ _ _ _ _ _ _ _ _ _) h_t11
  obtain rfl := po h
  unfold m_law_c8; walk_at "ev"
noncomputable def law_e13  (x : (List Tx)) : Option Tx :=
  (joinO ([] : Tx) x) >>= fun t9 =>
  pure t9
theorem t_law_e13  (x : (List Tx)) {out} (h : law_e13  x = some out) : ∀ y0 y1 y2 y3 y4 y5 y6 y7 y8 y9 y10 y11 y12 : T, lcB [13] (tgN 13) m_law_z14 m_law_y14 (en false x) [y0, y1, y2, y3, y4, y5, y6, y7, y8, y9, y10, y11, y12, .unb] = .ok (some (en true out)) [y0, y1, y2, y3, y4, y5, y6, y7, y8, y9, y10, y11, y12, .unb] := by
  intro y0 y1 y2 y3 y4 y5 y6 y7 y8 y9 y10 y11 y12
  unfold law_e13 at h
  replace h := bs h; obtain ⟨t9, h_t9, h⟩ := h
  obtain rfl := po h
  unfold m_law_y14 m_law_z14; walk_at "ev"
noncomputable def law_c12 (words : (List (List Tx))) : Option (List Tx) :=
  (mpO words (fun x => law_e13  x)) >>= fun t10 =>
  pure t10
theorem t_law_c12 (words : (List (List Tx))) {out} (h : law_c12 words = some out) : ∀ y0 y1 y2 y3 y4 y5 y7 y8 y9 y10 y11 y12 : T, m_law_c12 [y0, y1, y2, y3, y4, y5, en false words, y7, y8, y9, y10, y11, y12, .unb] = .ok (en true out) [y0, y1, y2, y3, y4, y5, en false words, y7, y8, y9, y10, y11, y12, .unb] := by
  intro y0 y1 y2 y3 y4 y5 y7 y8 y9 y10 y11 y12
  unfold law_c12 at h
  replace h := bs h; obtain ⟨t10, h_t10, h⟩ := h
  have k_5 : ∀ y0 y1 y2 y3 y4 y5 y6 y7 y8 y9 y10 y11 y12 : T, lcL [13] (tgN 13) m_law_z14 m_law_y14 (words.map (en false)) [] [y0, y1, y2, y3, y4, y5, y6, y7, y8, y9, y10, y11, y12, .unb] = .ok (en true t10) [y0, y1, y2, y3, y4, y5, y6, y7, y8, y9, y10, y11, y12, .unb] := by
    intro y0 y1 y2 y3 y4 y5 y6 y7 y8 y9 y10 y11 y12
    exact mpO_t (ex := fun x : (List Tx) => en false x) (env := [y0, y1, y2, y3, y4, y5, y6, y7, y8, y9, y10, y11, y12, .unb]) (fun x o ho => t_law_e13  x ho _ _ _ _ _ _ _ _ _ _ _ _ _) h_t10
  obtain rfl := po h
  unfold m_law_c12; walk_at "ev"
noncomputable def law_n11 (script : Scr) (modes : (List Tx)) (deeds : (List Fu)) (box : (List Int)) (words : (List (List Tx))) : Option (List Tx) :=
  (law_c12 words) >>= fun t9 =>
  pure t9
theorem t_law_n11 (script : Scr) (modes : (List Tx)) (deeds : (List Fu)) (box : (List Int)) (words : (List (List Tx))) {out} (h : law_n11 script modes deeds box words = some out) : ∀ y3 y5 y7 y8 y9 y10 y11 y12 : T, m_law_n11 [en true script, en false modes, en false deeds, y3, en true box, y5, en true words, y7, y8, y9, y10, y11, y12, .unb] = .nxt [en true script, en false modes, en false deeds, .unb, en true box, .unb, en true words, en true out, .unb, .unb, .unb, .unb, .unb, .unb] := by
  intro y3 y5 y7 y8 y9 y10 y11 y12
  unfold law_n11 at h
  replace h := bs h; obtain ⟨t9, h_t9, h⟩ := h
  have e_t9 := t_law_c12 _ h_t9
  try simp only [q_none, q_some, q_lvL, q_lvV, q_lvV2] at e_t9
  obtain rfl := po h
  unfold m_law_n11
  refine (lend_e (ts := [en true script, en false modes, en false deeds, en true box, en true words]) (os := [en true t9]) (by walk_at "ev"; rfl) (by walk_at "ev"; rfl) (by walk_at "ev"; rfl) (by rw [freshA_all]; walk_at "ev")).trans ?_
  walk_at "ev"
noncomputable def law_f18 (d : Fu) (x0 : (Lv Tx)) : Option (List Tx) :=
  if d.n = "in_full" then in_full x0 else if d.n = "as_initials" then as_initials x0 else if d.n = "first_alone" then first_alone x0 else if d.n = "last_alone" then last_alone x0 else if d.n = "as_bare" then as_bare x0 else if d.n = "in_capitals" then in_capitals x0 else none
theorem t_law_f18 {d : Fu} {x0 : (Lv Tx)} {out} (h : law_f18 d x0 = some out) : ∃ mf, m_law_f18.lookup d.n = some mf ∧ mf [en false x0] = .ok (en true out) [] := by
  unfold law_f18 at h
  by_cases h0 : d.n = "in_full"
  · rw [if_pos h0] at h; exact ⟨_, by rw [h0]; rfl, t_in_full _ h⟩
  rw [if_neg h0] at h
  by_cases h1 : d.n = "as_initials"
  · rw [if_pos h1] at h; exact ⟨_, by rw [h1]; rfl, t_as_initials _ h⟩
  rw [if_neg h1] at h
  by_cases h2 : d.n = "first_alone"
  · rw [if_pos h2] at h; exact ⟨_, by rw [h2]; rfl, t_first_alone _ h⟩
  rw [if_neg h2] at h
  by_cases h3 : d.n = "last_alone"
  · rw [if_pos h3] at h; exact ⟨_, by rw [h3]; rfl, t_last_alone _ h⟩
  rw [if_neg h3] at h
  by_cases h4 : d.n = "as_bare"
  · rw [if_pos h4] at h; exact ⟨_, by rw [h4]; rfl, t_as_bare _ h⟩
  rw [if_neg h4] at h
  by_cases h5 : d.n = "in_capitals"
  · rw [if_pos h5] at h; exact ⟨_, by rw [h5]; rfl, t_in_capitals _ h⟩
  rw [if_neg h5] at h
  cases h
noncomputable def law_s17 (whole : (List Tx)) (turn : Int) (deed : Fu) (handed : (List Tx)) : Option (List Tx) :=
  (law_f18 deed (if (decide (turn = (0 : Int))) = true then (Lv.mk false handed) else (Lv.mk true (Vt.mk whole).l))) >>= fun t12 =>
  pure t12
theorem t_law_s17 (whole : (List Tx)) (turn : Int) (deed : Fu) (handed : (List Tx)) {out} (h : law_s17 whole turn deed handed = some out) : ∀ y0 y1 y2 y3 y4 y5 y6 y9 y12 : T, m_law_s17 [y0, y1, y2, y3, y4, y5, y6, en true whole, en true turn, y9, en true deed, en true handed, y12, .unb] = .nxt [y0, y1, y2, y3, y4, y5, y6, en true whole, en true turn, y9, en true deed, en true handed, en true out, .unb] := by
  intro y0 y1 y2 y3 y4 y5 y6 y9 y12
  unfold law_s17 at h
  replace h := bs h; obtain ⟨t12, h_t12, h⟩ := h
  obtain ⟨mf_t12, hl_t12, hm_t12⟩ := t_law_f18 h_t12
  obtain rfl := po h
  unfold m_law_s17
  cases hch0 : (decide (turn = (0 : Int)))
  all_goals (try simp only [hch0, q_lvL, q_lvV, q_lvV2, ↓reduceIte, Bool.false_eq_true, q_q] at hm_t12)
  all_goals walk_at "ev"
noncomputable def law_x19 (words : (List (List Tx))) (whole : (List Tx)) (mode : Tx) (handed : (List Tx)) (found : (List Tx)) : Option Bool :=
  (l_due mode words) >>= fun t14 =>
  if (!(decide (found = t14))) = true then pure true
  else
    pure (!(decide (handed = whole)))
theorem t_law_x19 (words : (List (List Tx))) (whole : (List Tx)) (mode : Tx) (handed : (List Tx)) (found : (List Tx)) {out} (h : law_x19 words whole mode handed found = some out) : ∀ y0 y1 y2 y3 y4 y5 y8 y10 : T, m_law_x19 [y0, y1, y2, y3, y4, y5, en true words, en true whole, y8, en true mode, y10, en true handed, en true found, .unb] = .ok out [y0, y1, y2, y3, y4, y5, en true words, en true whole, y8, en true mode, y10, en true handed, en true found, .unb] := by
  intro y0 y1 y2 y3 y4 y5 y8 y10
  unfold law_x19 at h
  replace h := bs h; obtain ⟨t14, h_t14, h⟩ := h
  have e_t14 := t_l_due _ _ h_t14
  try simp only [q_none, q_some, q_lvL, q_lvV, q_lvV2] at e_t14
  by_cases hc1 : (!(decide (found = t14))) = true
  · rw [if_pos hc1] at h
    obtain rfl := po h
    unfold m_law_x19; walk_at "ev"
  · rw [if_neg hc1] at h
    rw [Bool.not_eq_true] at hc1
    obtain rfl := po h
    unfold m_law_x19; walk_at "ev"
noncomputable def law_b16 (modes : (List Tx)) (deeds : (List Fu)) (words : (List (List Tx))) (whole : (List Tx)) (turn : Int) (x : (Tx × Fu)) : Option (Fl Unit Bool) :=
  (law_s17 whole turn x.2 whole) >>= fun t13 =>
  (law_x19 words whole x.1 whole t13) >>= fun t14 =>
  if t14 = true then
    pure (.out false)
  else
    (apO t13 (['x'] : Tx)) >>= fun t15 =>
    pure (.go ())
theorem t_law_b16 (modes : (List Tx)) (deeds : (List Fu)) (words : (List (List Tx))) (whole : (List Tx)) (turn : Int) (x : (Tx × Fu)) {out} (h : law_b16 modes deeds words whole turn x = some out) : ∀ y0 y3 y4 y5 : T, flR (fun s => [y0, en false modes, en false deeds, y3, y4, y5, en true words, en true whole, en true turn, .unb, .unb, .unb, .unb, .unb]) (fun e => .ret (en true e) [.unb, .unb, .unb, .unb, .unb, .unb, .unb, .unb, .unb, .unb, .unb, .unb, .unb, .unb]) out (m_law_b16 [y0, en false modes, en false deeds, y3, y4, y5, en true words, en true whole, en true turn, en true x.1, en true x.2, .unb, .unb, .unb]) := by
  intro y0 y3 y4 y5
  unfold law_b16 at h
  replace h := bs h; obtain ⟨t13, h_t13, h⟩ := h
  have e_t13 := t_law_s17 _ _ _ _ h_t13
  try simp only [q_none, q_some, q_lvL, q_lvV, q_lvV2] at e_t13
  replace h := bs h; obtain ⟨t14, h_t14, h⟩ := h
  have e_t14 := t_law_x19 _ _ _ _ _ h_t14
  try simp only [q_none, q_some, q_lvL, q_lvV, q_lvV2] at e_t14
  by_cases hc1 : t14 = true
  · rw [if_pos hc1] at h
    obtain rfl := po h
    show _ = _
    unfold m_law_b16; walk_at "ev"
  · rw [if_neg hc1] at h
    rw [Bool.not_eq_true] at hc1
    replace h := bs h; obtain ⟨t15, h_t15, h⟩ := h
    obtain rfl := po h
    show _ ∨ _
    left
    unfold m_law_b16; walk_at "ev"
noncomputable def law_l16 (modes : (List Tx)) (deeds : (List Fu)) (words : (List (List Tx))) (whole : (List Tx)) (turn : Int) : Option (Unit ⊕ Bool) :=
  forX (modes.zip deeds) () (fun x s => law_b16 modes deeds words whole turn x)
theorem t_law_l16 (modes : (List Tx)) (deeds : (List Fu)) (words : (List (List Tx))) (whole : (List Tx)) (turn : Int) {out} (h : law_l16 modes deeds words whole turn = some out) : ∀ y0 y3 y4 y5 y9 y10 y11 y12 : T, m_law_l16 [y0, en false modes, en false deeds, y3, y4, y5, en true words, en true whole, en true turn, y9, y10, y11, y12, .unb] = exR (fun s => [y0, en false modes, en false deeds, y3, y4, y5, en true words, en true whole, en true turn, .unb, .unb, .unb, .unb, .unb]) (fun e => .ret (en true e) [.unb, .unb, .unb, .unb, .unb, .unb, .unb, .unb, .unb, .unb, .unb, .unb, .unb, .unb]) out := by
  intro y0 y3 y4 y5 y9 y10 y11 y12
  unfold law_l16 at h
  have k := forX_t (S := Unit) (g := (tgT [(tgN 9), (tgN 10)])) (b := m_law_b16) (ex := (en true : (Tx × Fu) → T)) (enc := (fun s => [y0, en false modes, en false deeds, y3, y4, y5, en true words, en true whole, en true turn, .unb, .unb, .unb, .unb, .unb])) (out := (fun e => .ret (en true e) [.unb, .unb, .unb, .unb, .unb, .unb, .unb, .unb, .unb, .unb, .unb, .unb, .unb, .unb])) (fun _ => rfl) (fun x s s' hb => by
      have e := t_law_b16 modes deeds words whole turn x hb
      walk_at "ev") (modes.zip deeds) () out h
  try dsimp only at k
  try simp only [List.map_cons, List.map_nil, q_fz, q_some, q_none] at k
  unfold m_law_l16; walk_at "ev"
noncomputable def law_b15 (modes : (List Tx)) (deeds : (List Fu)) (words : (List (List Tx))) (whole : (List Tx)) (x : Int) : Option (Fl Unit Bool) :=
  (law_l16 modes deeds words whole x) >>= fun t16 =>
  match t16 with
  | .inr e => pure (.out e)
  | .inl s =>
    pure (.go ())
theorem t_law_b15 (modes : (List Tx)) (deeds : (List Fu)) (words : (List (List Tx))) (whole : (List Tx)) (x : Int) {out} (h : law_b15 modes deeds words whole x = some out) : ∀ y0 y3 y4 y5 : T, flR (fun s => [y0, en false modes, en false deeds, y3, y4, y5, en true words, en true whole, .unb, .unb, .unb, .unb, .unb, .unb]) (fun e => .ret (en true e) [.unb, .unb, .unb, .unb, .unb, .unb, .unb, .unb, .unb, .unb, .unb, .unb, .unb, .unb]) out (m_law_b15 [y0, en false modes, en false deeds, y3, y4, y5, en true words, en true whole, en true x, .unb, .unb, .unb, .unb, .unb]) := by
  intro y0 y3 y4 y5
  unfold law_b15 at h
  replace h := bs h; obtain ⟨t16, h_t16, h⟩ := h
  have e_t16 := t_law_l16 _ _ _ _ _ h_t16
  try simp only [q_none, q_some, q_lvL, q_lvV, q_lvV2] at e_t16
  cases t16 with
  | inr e =>
    dsimp only at h
    obtain rfl := po h
    show _ = _
    unfold m_law_b15; walk_at "ev"
  | inl s =>
    dsimp only at h
    obtain rfl := po h
    show _ ∨ _
    left
    unfold m_law_b15; walk_at "ev"
noncomputable def law_l15 (modes : (List Tx)) (deeds : (List Fu)) (words : (List (List Tx))) (whole : (List Tx)) : Option (Unit ⊕ Bool) :=
  (rngO (2 : Int)) >>= fun t11 =>
  forX t11 () (fun x s => law_b15 modes deeds words whole x)
theorem t_law_l15 (modes : (List Tx)) (deeds : (List Fu)) (words : (List (List Tx))) (whole : (List Tx)) {out} (h : law_l15 modes deeds words whole = some out) : ∀ y0 y3 y4 y5 y8 y9 y10 y11 y12 : T, m_law_l15 [y0, en false modes, en false deeds, y3, y4, y5, en true words, en true whole, y8, y9, y10, y11, y12, .unb] = exR (fun s => [y0, en false modes, en false deeds, y3, y4, y5, en true words, en true whole, .unb, .unb, .unb, .unb, .unb, .unb]) (fun e => .ret (en true e) [.unb, .unb, .unb, .unb, .unb, .unb, .unb, .unb, .unb, .unb, .unb, .unb, .unb, .unb]) out := by
  intro y0 y3 y4 y5 y8 y9 y10 y11 y12
  unfold law_l15 at h
  replace h := bs h; obtain ⟨t11, h_t11, h⟩ := h
  have k := forX_t (S := Unit) (g := (tgN 8)) (b := m_law_b15) (ex := (en true : Int → T)) (enc := (fun s => [y0, en false modes, en false deeds, y3, y4, y5, en true words, en true whole, .unb, .unb, .unb, .unb, .unb, .unb])) (out := (fun e => .ret (en true e) [.unb, .unb, .unb, .unb, .unb, .unb, .unb, .unb, .unb, .unb, .unb, .unb, .unb, .unb])) (fun _ => rfl) (fun x s s' hb => by
      have e := t_law_b15 modes deeds words whole x hb
      walk_at "ev") t11 () out h
  try dsimp only at k
  try simp only [List.map_cons, List.map_nil, q_fz, q_some, q_none] at k
  unfold m_law_l15; walk_at "ev"
noncomputable def law_b6 (script : Scr) (modes : (List Tx)) (deeds : (List Fu)) (x : Int) : Option (Fl Unit Bool) :=
  (l_cell script x) >>= fun t4 =>
  (l_box t4) >>= fun t5 =>
  (l_take t5 (2 : Int)) >>= fun t6 =>
  (atI ([(4 : Int), (19 : Int)] : (List Int)) t6.1) >>= fun t7 =>
  (law_c8 t6.2 t7) >>= fun t8 =>
  (law_n11 script modes deeds t8.2 t8.1) >>= fun t10 =>
  (law_l15 modes deeds t8.1 t10) >>= fun t17 =>
  match t17 with
  | .inr e => pure (.out e)
  | .inl s =>
    (l_take t8.2 (6 : Int)) >>= fun t18 =>
    (atI modes t18.1) >>= fun t19 =>
    (l_bad t18.2 t19) >>= fun t20 =>
    (l_refused t20.1) >>= fun t21 =>
    if (!t21.1) = true then
      pure (.out false)
    else
      pure (.go ())
theorem t_law_b6 (script : Scr) (modes : (List Tx)) (deeds : (List Fu)) (x : Int) {out} (h : law_b6 script modes deeds x = some out) : flR (fun s => [en true script, en false modes, en false deeds, .unb, .unb, .unb, .unb, .unb, .unb, .unb, .unb, .unb, .unb, .unb]) (fun e => .ret (en true e) [.unb, .unb, .unb, .unb, .unb, .unb, .unb, .unb, .unb, .unb, .unb, .unb, .unb, .unb]) out (m_law_b6 [en true script, en false modes, en false deeds, en true x, .unb, .unb, .unb, .unb, .unb, .unb, .unb, .unb, .unb, .unb]) := by
  skip
  unfold law_b6 at h
  replace h := bs h; obtain ⟨t4, h_t4, h⟩ := h
  have e_t4 := t_l_cell _ _ h_t4
  try simp only [q_none, q_some, q_lvL, q_lvV, q_lvV2] at e_t4
  replace h := bs h; obtain ⟨t5, h_t5, h⟩ := h
  have e_t5 := t_l_box _ h_t5
  try simp only [q_none, q_some, q_lvL, q_lvV, q_lvV2] at e_t5
  have k_3 : m_law_d7 [en true (4 : Int), en true (19 : Int)] = .ok (en true ([(4 : Int), (19 : Int)] : (List Int))) [] := dsp_l (show (2 : Nat) ≤ lim by decide) rfl
  replace h := bs h; obtain ⟨t6, h_t6, h⟩ := h
  have e_t6 := t_l_take _ _ h_t6
  try simp only [q_none, q_some, q_lvL, q_lvV, q_lvV2] at e_t6
  replace h := bs h; obtain ⟨t7, h_t7, h⟩ := h
  replace h := bs h; obtain ⟨t8, h_t8, h⟩ := h
  have e_t8 := t_law_c8 _ _ h_t8
  try simp only [q_none, q_some, q_lvL, q_lvV, q_lvV2] at e_t8
  replace h := bs h; obtain ⟨t10, h_t10, h⟩ := h
  have e_t10 := t_law_n11 _ _ _ _ _ h_t10
  try simp only [q_none, q_some, q_lvL, q_lvV, q_lvV2] at e_t10
  replace h := bs h; obtain ⟨t17, h_t17, h⟩ := h
  have e_t17 := t_law_l15 _ _ _ _ h_t17
  try simp only [q_none, q_some, q_lvL, q_lvV, q_lvV2] at e_t17
  cases t17 with
  | inr e =>
    dsimp only at h
    obtain rfl := po h
    show _ = _
    unfold m_law_b6; walk_at "ev"
  | inl s =>
    dsimp only at h
    replace h := bs h; obtain ⟨t18, h_t18, h⟩ := h
    have e_t18 := t_l_take _ _ h_t18
    try simp only [q_none, q_some, q_lvL, q_lvV, q_lvV2] at e_t18
    replace h := bs h; obtain ⟨t19, h_t19, h⟩ := h
    replace h := bs h; obtain ⟨t20, h_t20, h⟩ := h
    have e_t20 := t_l_bad _ _ h_t20
    try simp only [q_none, q_some, q_lvL, q_lvV, q_lvV2] at e_t20
    replace h := bs h; obtain ⟨t21, h_t21, h⟩ := h
    have e_t21 := q_drp (t_l_refused _ h_t21)
    try simp only [q_none, q_some, q_lvL, q_lvV, q_lvV2] at e_t21
    by_cases hc2 : (!t21.1) = true
    · rw [if_pos hc2] at h
      obtain rfl := po h
      show _ = _
      unfold m_law_b6; walk_at "ev"
    · rw [if_neg hc2] at h
      rw [Bool.not_eq_true] at hc2
      obtain rfl := po h
      show _ ∨ _
      left
      unfold m_law_b6; walk_at "ev"
noncomputable def law_l6 (script : Scr) (modes : (List Tx)) (deeds : (List Fu)) : Option (Unit ⊕ Bool) :=
  (rngO (max (2 : Int) (min (6 : Int) (script.l.length : Int)))) >>= fun t3 =>
  forX t3 () (fun x s => law_b6 script modes deeds x)
theorem t_law_l6 (script : Scr) (modes : (List Tx)) (deeds : (List Fu)) {out} (h : law_l6 script modes deeds = some out) : ∀ y3 y4 y5 y6 y7 y8 y9 y10 y11 y12 : T, m_law_l6 [en true script, en true modes, en true deeds, y3, y4, y5, y6, y7, y8, y9, y10, y11, y12, .unb] = exR (fun s => [en true script, en false modes, en false deeds, .unb, .unb, .unb, .unb, .unb, .unb, .unb, .unb, .unb, .unb, .unb]) (fun e => .ret (en true e) [.unb, .unb, .unb, .unb, .unb, .unb, .unb, .unb, .unb, .unb, .unb, .unb, .unb, .unb]) out := by
  intro y3 y4 y5 y6 y7 y8 y9 y10 y11 y12
  unfold law_l6 at h
  replace h := bs h; obtain ⟨t3, h_t3, h⟩ := h
  have k := forX_t (S := Unit) (g := (tgN 3)) (b := m_law_b6) (ex := (en true : Int → T)) (enc := (fun s => [en true script, en false modes, en false deeds, .unb, .unb, .unb, .unb, .unb, .unb, .unb, .unb, .unb, .unb, .unb])) (out := (fun e => .ret (en true e) [.unb, .unb, .unb, .unb, .unb, .unb, .unb, .unb, .unb, .unb, .unb, .unb, .unb, .unb])) (fun _ => rfl) (fun x s s' hb => by
      have e := t_law_b6 script modes deeds x hb
      walk_at "ev") t3 () out h
  try dsimp only at k
  try simp only [List.map_cons, List.map_nil, q_fz, q_some, q_none] at k
  unfold m_law_l6; walk_at "ev"
noncomputable def law (script : Scr) : Option Bool :=
  (law_n2 script ([c_full, c_initials, c_first, c_last, c_bare, c_high] : (List Tx))) >>= fun t2 =>
  (law_l6 script ([c_full, c_initials, c_first, c_last, c_bare, c_high] : (List Tx)) t2) >>= fun t22 =>
  match t22 with
  | .inr e => pure e
  | .inl s =>
    pure true
theorem t_law (script : Scr) {out} (h : law script = some out) : m_law [en true script] = .ok (en true out) [] := by
  unfold law at h
  have k_1 : m_law_d1 [en true c_full, en true c_initials, en true c_first, en true c_last, en true c_bare, en true c_high] = .ok (en true ([c_full, c_initials, c_first, c_last, c_bare, c_high] : (List Tx))) [] := dsp_l (show (6 : Nat) ≤ lim by decide) rfl
  replace h := bs h; obtain ⟨t2, h_t2, h⟩ := h
  have e_t2 := t_law_n2 _ _ h_t2
  try simp only [q_none, q_some, q_lvL, q_lvV, q_lvV2] at e_t2
  replace h := bs h; obtain ⟨t22, h_t22, h⟩ := h
  have e_t22 := t_law_l6 _ _ _ h_t22
  try simp only [q_none, q_some, q_lvL, q_lvV, q_lvV2] at e_t22
  cases t22 with
  | inr e =>
    dsimp only at h
    obtain rfl := po h
    unfold m_law m_law_m; walk_at "ev"
  | inl s =>
    dsimp only at h
    obtain rfl := po h
    unfold m_law m_law_m; walk_at "ev"
end En.Z
set_option maxRecDepth 100000
set_option maxHeartbeats 1000000
namespace En.Y
open PySem PySem.Spec PyProof.Rows L2 Gk En
section
variable {α β S E : Type}
theorem ixN_nn {n : Nat} {i : Int} (h : 0 ≤ i) (h2 : i < n) : ixN n i = some i.toNat := by unfold ixN; rw [if_pos h, if_pos h2]
theorem aNn {l : List α} {i : Int} (h : 0 ≤ i) (h2 : i < l.length) : atI l i = l[i.toNat]? := by unfold atI; rw [ixN_nn h h2]; rfl
theorem aget {l : List α} {i : Int} (h : 0 ≤ i) (h2 : i < l.length) : ∃ x, atI l i = some x ∧ l[i.toNat]? = some x ∧ x ∈ l := by
  have h3 : i.toNat < l.length := by omega
  rw [aNn h h2]
  exact ⟨l[i.toNat], List.getElem?_eq_getElem h3, List.getElem?_eq_getElem h3, List.getElem_mem h3⟩
theorem aN {l : List α} {i : Nat} {x : α} (h : l[i]? = some x) : atI l (i : Int) = some x := by
  have h3 := (List.getElem?_eq_some_iff.mp h).1
  rw [aNn (by omega) (by omega)]; exact h
theorem aLast {l : List α} {x : α} : atI (l ++ [x]) (-1) = some x := by
  unfold atI ixN
  rw [if_neg (by decide), if_pos (by rw [List.length_append]; simp; omega)]
  show (l ++ [x])[_]? = _
  rw [show ((-1 : Int) + ((l ++ [x]).length : Int)).toNat = l.length by rw [List.length_append]; simp; omega]
  simp
theorem setO_last {l : List α} {x y : α} : setO (l ++ [x]) (-1) y = some (l ++ [y]) := by
  unfold setO ixN
  rw [if_neg (by decide), if_pos (by rw [List.length_append]; simp; omega)]
  show some ((l ++ [x]).set _ y) = _
  rw [show ((-1 : Int) + ((l ++ [x]).length : Int)).toNat = l.length by rw [List.length_append]; simp; omega]
  simp
theorem apO_ok {l : List α} {x : α} (h : l.length < lim) : apO l x = some (l ++ [x]) := if_pos h
theorem catL_ok {s u : List α} (h : s.length + u.length ≤ lim) : catL s u = some (s ++ u) := if_pos h
theorem catS_ok {s u : Tx} (h : s.length + u.length ≤ lim) : catS s u = some (s ++ u) := if_pos h
theorem lnS_ok {s : Tx} (h : s.length ≤ lim) : lnS s = some (s.length : Int) := if_pos h
theorem modO_ok {i j : Int} (h : 0 < j) : modO i j = some (i % j) := if_pos h
theorem divO_ok {i j : Int} (h : 0 < j) (h2 : j < 2 ^ 200) : divO i j = some (i / j) := if_pos ⟨h, h2⟩
theorem rngO_ok {n : Int} (h : n < 2 ^ 62) (h2 : 0 ≤ n) : rngO n = some ((List.range n.toNat).map fun i : Nat => (i : Int)) := if_pos ⟨h, by omega⟩
theorem cut_l (l : List α) {k : Int} (h : 0 ≤ k) : cutA l none (some k) = l.take k.toNat := by
  unfold cutA HT.sIx
  dsimp only
  rw [if_neg (by omega), List.drop_zero, Nat.sub_zero]
  by_cases hk : k.toNat ≤ l.length
  · rw [Nat.min_eq_left hk]
  · rw [Nat.min_eq_right (by omega), List.take_of_length_le (Nat.le_refl _), List.take_of_length_le (by omega)]
theorem cut_r (l : List α) {k : Int} (h : 0 ≤ k) : cutA l (some k) none = l.drop k.toNat := by
  unfold cutA HT.sIx
  dsimp only
  rw [if_neg (by omega)]
  by_cases hk : k.toNat ≤ l.length
  · rw [Nat.min_eq_left hk, List.take_of_length_le (by rw [List.length_drop]; omega)]
  · rw [Nat.min_eq_right (by omega), List.drop_of_length_le (Nat.le_refl _), List.drop_of_length_le (by omega)]; simp
theorem joinX_nil : ∀ ls : List Tx, joinX [] ls = ls.flatten
  | [] => rfl
  | [x] => by simp [joinX]
  | x :: y :: r => by rw [joinX, joinX_nil (y :: r)]; simp
theorem sum_flat (ls : List Tx) : (ls.map (·.length)).sum = ls.flatten.length := by rw [List.length_flatten]
theorem joinO_nil {ls : List Tx} (h : ls.flatten.length ≤ lim) : joinO [] ls = some ls.flatten := by
  unfold joinO; rw [sum_flat, if_pos (by simpa using h), joinX_nil]
theorem forO_pre {f : α → S → Option S} (I : List α → S → Prop) : ∀ (l pre : List α) (s : S), I pre s → (∀ p x q s, pre ++ l = p ++ x :: q → I p s → ∃ s', f x s = some s' ∧ I (p ++ [x]) s') → ∃ s', forO l s f = some s' ∧ I (pre ++ l) s'
  | [], pre, s, h, _ => ⟨s, rfl, by rw [List.append_nil]; exact h⟩
  | x :: l, pre, s, h, st => by
    obtain ⟨s1, e1, h1⟩ := st pre x l s rfl h
    obtain ⟨s2, e2, h2⟩ := forO_pre I l (pre ++ [x]) s1 h1 (fun p y q s e => st p y q s (by rw [← e]; simp))
    exact ⟨s2, by rw [forO, e1]; exact e2, by simpa using h2⟩
theorem forX_pre {f : α → S → Option (Fl S E)} (I : List α → S → Prop) : ∀ (l pre : List α) (s : S), I pre s → (∀ p x q s, pre ++ l = p ++ x :: q → I p s → ∃ s', f x s = some (.go s') ∧ I (p ++ [x]) s') → ∃ s', forX l s f = some (.inl s') ∧ I (pre ++ l) s'
  | [], pre, s, h, _ => ⟨s, rfl, by rw [List.append_nil]; exact h⟩
  | x :: l, pre, s, h, st => by
    obtain ⟨s1, e1, h1⟩ := st pre x l s rfl h
    obtain ⟨s2, e2, h2⟩ := forX_pre I l (pre ++ [x]) s1 h1 (fun p y q s e => st p y q s (by rw [← e]; simp))
    exact ⟨s2, by rw [forX, e1]; exact e2, by simpa using h2⟩
/-- no state of interest -/
theorem forX_go {f : α → S → Option (Fl S E)} {l : List α} {s : S} (I : S → Prop) (h0 : I s) (h : ∀ x ∈ l, ∀ s, I s → ∃ s', f x s = some (.go s') ∧ I s') : ∃ s', forX l s f = some (.inl s') ∧ I s' :=
  forX_pre (fun _ => I) l [] s h0 (fun p x q s e => h x (by rw [show l = p ++ x :: q from e]; simp) s)
theorem fmG_pre {f : α → S → Option (Option β × S)} (I : List α → List β → S → Prop) : ∀ (l pre : List α) (acc : List β) (s : S), I pre acc s → (∀ p x q a s, pre ++ l = p ++ x :: q → I p a s → ∃ o s', f x s = some (o, s') ∧ I (p ++ [x]) (a ++ o.toList) s') → ∃ ys s', fmG l s f = some (ys, s') ∧ I (pre ++ l) (acc ++ ys) s'
  | [], pre, acc, s, h, _ => ⟨[], s, fmG_nil s f, by rw [List.append_nil, List.append_nil]; exact h⟩
  | x :: l, pre, acc, s, h, st => by
    obtain ⟨o, s1, e1, h1⟩ := st pre x l acc s rfl h
    obtain ⟨ys, s2, e2, h2⟩ := fmG_pre I l (pre ++ [x]) (acc ++ o.toList) s1 h1 (fun p y q a s e => st p y q a s (by rw [← e]; simp))
    exact ⟨o.toList ++ ys, s2, by rw [fmG, e1]; show (fmG l s1 f).bind _ = _; rw [e2]; rfl, by simpa using h2⟩
theorem mpS_pre {f : α → S → Option (β × S)} {l : List α} {s : S} (I : List α → List β → S → Prop) (hl : l.length ≤ lim) (h0 : I [] [] s) (st : ∀ p x q a s, l = p ++ x :: q → I p a s → ∃ y s', f x s = some (y, s') ∧ I (p ++ [x]) (a ++ [y]) s') : ∃ ys s', mpS l s f = some (ys, s') ∧ I l ys s' := by
  obtain ⟨ys, s', e, h⟩ := fmG_pre (f := fun x s => (f x s).map fun p => (some p.1, p.2)) I l [] [] s h0 (fun p x q a s e h => by
    obtain ⟨y, s', e1, h1⟩ := st p x q a s e h
    exact ⟨some y, s', by rw [e1]; rfl, h1⟩)
  exact ⟨ys, s', by unfold mpS fmS; rw [if_pos hl]; exact e, h⟩
theorem fmO_eq {f : α → Option (Option β)} {l : List α} (g : α → Option β) (hl : l.length ≤ lim) (h : ∀ x ∈ l, f x = some (g x)) : fmO l f = some (l.filterMap g) := by
  obtain ⟨ys, s', e, h1⟩ := fmG_pre (f := fun x (_ : Unit) => (f x).map fun p => (p, ())) (fun p a _ => a = p.filterMap g) l [] [] () rfl (fun p x q a s e h' => by
    have hx : x ∈ l := by rw [show l = p ++ x :: q from e]; simp
    refine ⟨g x, (), by rw [h x hx]; rfl, ?_⟩
    rw [h', List.filterMap_append]; cases hg : g x <;> simp [hg])
  unfold fmO fmS
  rw [if_pos hl, e]
  simp only [List.nil_append] at h1
  rw [← h1]; rfl
theorem mpO_eq {f : α → Option β} {l : List α} (g : α → β) (hl : l.length ≤ lim) (h : ∀ x ∈ l, f x = some (g x)) : mpO l f = some (l.map g) := by
  unfold mpO
  rw [fmO_eq (fun x => some (g x)) hl (fun x hx => by rw [h x hx]; rfl), List.filterMap_eq_map']
end
noncomputable def cSm : Tx := ['a', 'b', 'c', 'd', 'e', 'f', 'g', 'h', 'i', 'j', 'k', 'l', 'm', 'n', 'o', 'p', 'q', 'r', 's', 't', 'u', 'v', 'w', 'x', 'y', 'z']
noncomputable def cCa : Tx := ['A', 'B', 'C', 'D', 'E', 'F', 'G', 'H', 'I', 'J', 'K', 'L', 'M', 'N', 'O', 'P', 'Q', 'R', 'S', 'T', 'U', 'V', 'W', 'X', 'Y', 'Z']
noncomputable def cMk : Tx := ['\'', '`', '^', '~', ':']
/-- a letter: a sign, a mark behind it or none -/
noncomputable def isL : Tx → Bool
  | [c] => decide (c ∈ cSm) || decide (c ∈ cCa)
  | [c, m] => (decide (c ∈ cSm) || decide (c ∈ cCa)) && decide (m ∈ cMk)
  | _ => false
noncomputable def low (s : Tx) : Tx := s.map lo1c
noncomputable def upp (s : Tx) : Tx := s.map up1c
theorem isL_cases {s : Tx} (h : isL s = true) : (∃ c, s = [c] ∧ (c ∈ cSm ∨ c ∈ cCa)) ∨ ∃ c m, s = [c, m] ∧ (c ∈ cSm ∨ c ∈ cCa) ∧ m ∈ cMk := by
  unfold isL at h; split at h
  · simp only [Bool.or_eq_true, decide_eq_true_eq] at h; exact .inl ⟨_, rfl, h⟩
  · simp only [Bool.and_eq_true, Bool.or_eq_true, decide_eq_true_eq] at h; exact .inr ⟨_, _, rfl, h⟩
  · cases h
theorem mk_lo : ∀ c ∈ cMk, lo1c c = c ∧ up1c c = c ∧ c ∉ cSm ∧ c ∉ cCa := by decide +kernel
theorem sm_up : ∀ c ∈ cSm, up1c c ∈ cCa ∧ lo1c (up1c c) = c := by decide +kernel
theorem asc : (∀ c ∈ cSm, c.toNat < 128) ∧ (∀ c ∈ cCa, c.toNat < 128) ∧ ∀ c ∈ cMk, c.toNat < 128 := by decide +kernel
theorem isL_asc {s : Tx} (h : isL s = true) : s.all (fun c => c.toNat < 128) = true := by
  have k : ∀ c, c ∈ cSm ∨ c ∈ cCa → c.toNat < 128 := fun c hc => by
    rcases hc with hc | hc
    · exact asc.1 c hc
    · exact asc.2.1 c hc
  rcases isL_cases h with ⟨c, rfl, hc⟩ | ⟨c, m, rfl, hc, hm⟩
  · simp [k c hc]
  · simp [k c hc, asc.2.2 m hm]
theorem isL_len {s : Tx} (h : isL s = true) : 1 ≤ s.length ∧ s.length ≤ 2 := by
  rcases isL_cases h with ⟨c, rfl, hc⟩ | ⟨c, m, rfl, hc, hm⟩ <;> simp
theorem upS_ok {s : Tx} (h : s.length ≤ lim) (h2 : s.all (fun c => c.toNat < 128) = true) : upS s = some (upp s) := if_pos ⟨h, h2⟩
theorem lim_e : lim = 1000000 := rfl
theorem upS_L {s : Tx} (h : isL s = true) : upS s = some (upp s) := upS_ok (by have := isL_len h; rw [lim_e]; omega) (isL_asc h)
/-- rows of letters -/
noncomputable def isW (w : List Tx) : Prop := ∀ l ∈ w, isL l = true
theorem flat_len {w : List Tx} (h : isW w) : w.length ≤ w.flatten.length ∧ w.flatten.length ≤ 2 * w.length := by
  induction w with
  | nil => simp
  | cons l w ih =>
    have := isL_len (h l List.mem_cons_self)
    have := ih fun x hx => h x (List.mem_cons_of_mem _ hx)
    rw [List.flatten_cons, List.length_append, List.length_cons]; omega
theorem flat_asc {w : List Tx} (h : isW w) : w.flatten.all (fun c => c.toNat < 128) = true := by
  induction w with
  | nil => rfl
  | cons l w ih => rw [List.flatten_cons, List.all_append, isL_asc (h l List.mem_cons_self), ih fun x hx => h x (List.mem_cons_of_mem _ hx)]; rfl
theorem sgs_app (a b : Tx) : sgs (a ++ b) = sgs a ++ sgs b := by unfold sgs; rw [List.map_append]
theorem forX_app {α S E : Type} {f : α → S → Option (Fl S E)} {a b : List α} {s s' : S} (h : forX a s f = some (.inl s')) (hs : ∀ x t, ∀ u, f x t ≠ some (.stop u)) : forX (a ++ b) s f = forX b s' f := by
  induction a generalizing s with
  | nil => rw [forX] at h; cases h; rfl
  | cons x a ih =>
    rw [List.cons_append, forX]
    rw [forX] at h
    cases hf : f x s with
    | none => rw [hf] at h; cases h
    | some r =>
      rw [hf] at h
      cases r with
      | go t => exact ih h
      | stop t => exact absurd hf (hs x s t)
      | out e => cases h
end En.Y
set_option maxRecDepth 100000
set_option maxHeartbeats 1000000
namespace En.Z
open PySem PySem.Spec PyProof.Rows L2 Gk En.Y
noncomputable def Bx (n : Nat) (b : List Int) : Prop := ∃ x y z : Int, b = [x, y, z] ∧ 0 ≤ x ∧ 0 ≤ y ∧ y < 2147483629 ∧ 0 ≤ z ∧ z ≤ n
theorem Bx.mono {n m : Nat} {b : List Int} (h : Bx n b) (l : n ≤ m) : Bx m b := by
  obtain ⟨x, y, z, e, h1, h2, h3, h4, h5⟩ := h
  exact ⟨x, y, z, e, h1, h2, h3, h4, by omega⟩
theorem take_ok {n : Nat} {b : List Int} {many : Int} (h : Bx n b) (hn : n ≤ 1000000) (hm : 0 < many) (hm2 : many < 2 ^ 64) : ∃ d b', l_take b many = some (d, b') ∧ 0 ≤ d ∧ d < many ∧ Bx (n + 1) b' := by
  obtain ⟨x, y, z, rfl, h1, h2, h3, h4, h5⟩ := h
  unfold l_take
  rw [show atI [x, y, z] (0 : Int) = some x from rfl]
  simp only [Option.bind_eq_bind, Option.bind_some, Option.pure_def]
  by_cases hx : 0 < x
  · rw [if_pos (by simpa using hx), modO_ok hm, divO_ok hm (by omega)]
    simp only [Option.bind_some]
    rw [show setO [x, y, z] (0 : Int) (x / many) = some [x / many, y, z] from rfl]
    exact ⟨_, _, rfl, Int.emod_nonneg _ (by omega), Int.emod_lt_of_pos _ hm, _, _, _, rfl, Int.ediv_nonneg (by omega) (by omega), h2, h3, h4, by omega⟩
  · rw [if_neg (by simpa using hx), show atI [x, y, z] (2 : Int) = some z from rfl]
    simp only [Option.bind_some]
    rw [show setO [x, y, z] (2 : Int) (z + 1) = some [x, y, z + 1] from rfl]
    simp only [Option.bind_some]
    rw [show atI [x, y, z + 1] (1 : Int) = some y from rfl, show atI [x, y, z + 1] (2 : Int) = some (z + 1) from rfl]
    simp only [Option.bind_some]
    have e1 : ∀ i : Int, 0 ≤ i → i < 2 ^ 64 → ∀ j : Int, 0 ≤ j → j ≤ 1000000 → powO i j = some (i ^ j.toNat) := fun i a b j c d => if_pos ⟨c, d, by omega⟩
    rw [e1 _ (by omega) (by omega) 5 (by decide) (by decide)]
    simp only [Option.bind_some]
    have := Int.emod_nonneg ((y + 6217 * (z + 1) + 131) ^ (5 : Int).toNat) (show (2147483647 : Int) ≠ 0 by decide)
    have := Int.emod_lt_of_pos ((y + 6217 * (z + 1) + 131) ^ (5 : Int).toNat) (show (0 : Int) < 2147483647 by decide)
    rw [e1 _ (by omega) (by omega) 3 (by decide) (by decide)]
    simp only [Option.bind_some]
    rw [modO_ok hm]
    simp only [Option.bind_some]
    exact ⟨_, _, rfl, Int.emod_nonneg _ (by omega), Int.emod_lt_of_pos _ hm, _, _, _, rfl, h1, h2, h3, by omega, by omega⟩
theorem box_ok (script : Scr) (k : Int) (h : 0 ≤ k) : ∃ c b, l_cell script k = some c ∧ l_box c = some b ∧ Bx 0 b := by
  have hb : ∀ c : Int, ∃ b, l_box c = some b ∧ Bx 0 b := fun c => ⟨_, rfl, _, _, _, rfl, by omega, Int.emod_nonneg _ (by decide), Int.emod_lt_of_pos _ (by decide), by omega, by omega⟩
  unfold l_cell
  by_cases hk : k < script.l.length
  · rw [if_pos (by simpa using hk)]
    obtain ⟨x, e, _⟩ := aget h hk
    rw [e]
    obtain ⟨b, e2, h2⟩ := hb x
    exact ⟨x, b, rfl, e2, h2⟩
  · rw [if_neg (by simpa using hk)]
    obtain ⟨b, e2, h2⟩ := hb (334214459 * k + 131)
    exact ⟨_, b, rfl, e2, h2⟩
theorem li_go (l : Tx) (h : isL l = true) (text : Tx) (found : List Tx) (hf : found.length < 1000) : forX (sgs l) found (fun x s => letters_in_b2 text s x) = some (.inl (found ++ [l])) := by
  have one : ∀ c, c ∈ cSm ∨ c ∈ cCa → letters_in_b2 text found [c] = some (.go (found ++ [[c]])) := fun c hc => by
    unfold letters_in_b2 letters_in_x3
    rw [show inSx [c] cSmall = some (decide (c ∈ cSm)) from rfl, show inSx [c] cCaps = some (decide (c ∈ cCa)) from rfl]
    simp only [Option.bind_eq_bind, Option.bind_some, Option.pure_def]
    rw [apO_ok (by rw [lim_e]; omega)]
    rcases hc with hc | hc <;> simp [hc]
  rcases isL_cases h with ⟨c, rfl, hc⟩ | ⟨c, m, rfl, hc, hm⟩
  · show forX [[c]] _ _ = _
    rw [forX, one c hc]; rfl
  · show forX [[c], [m]] _ _ = _
    rw [forX, one c hc, Option.bind_some]
    dsimp only
    rw [forX]
    have : letters_in_b2 text (found ++ [[c]]) [m] = some (.go (found ++ [[c, m]])) := by
      unfold letters_in_b2 letters_in_x3 letters_in_x4
      rw [show inSx [m] cSmall = some (decide (m ∈ cSm)) from rfl, show inSx [m] cCaps = some (decide (m ∈ cCa)) from rfl, show inSx [m] cMarks = some (decide (m ∈ cMk)) from rfl]
      have q := mk_lo m hm
      simp only [Option.bind_eq_bind, Option.bind_some, Option.pure_def, decide_eq_false q.2.2.1, decide_eq_false q.2.2.2, decide_eq_true hm, Bool.false_eq_true, if_false, if_true, aLast]
      rw [if_pos (by simp), lnS_ok (by simp [lim_e])]
      simp only [Option.bind_some, List.length_singleton]
      rw [if_pos (by decide), catS_ok (by simp [lim_e])]
      simp only [Option.bind_some, setO_last]
      rfl
    rw [this]; rfl
theorem li_all (w : List Tx) (h : isW w) (text : Tx) : ∀ (found : List Tx), found.length + w.length < 1000 → forX (sgs w.flatten) found (fun x s => letters_in_b2 text s x) = some (.inl (found ++ w)) := by
  induction w with
  | nil => intro found _; rw [List.append_nil]; rfl
  | cons l w ih =>
    intro found hl
    rw [List.length_cons] at hl
    rw [List.flatten_cons, sgs_app, forX_app (li_go l (h l List.mem_cons_self) text found (by omega)), ih (fun x hx => h x (List.mem_cons_of_mem _ hx)) _ (by rw [List.length_append, List.length_singleton]; omega), List.append_assoc]; rfl
    intro x t u e
    unfold letters_in_b2 at e
    simp only [Option.bind_eq_bind, Option.pure_def] at e
    obtain ⟨a, _, e⟩ := Option.bind_eq_some_iff.mp e
    split at e
    · obtain ⟨b, _, e⟩ := Option.bind_eq_some_iff.mp e; cases e
    · obtain ⟨b, _, e⟩ := Option.bind_eq_some_iff.mp e
      split at e
      · obtain ⟨c, _, e⟩ := Option.bind_eq_some_iff.mp e
        obtain ⟨c, _, e⟩ := Option.bind_eq_some_iff.mp e
        obtain ⟨c, _, e⟩ := Option.bind_eq_some_iff.mp e
        cases e
      · cases e
theorem letters_in_ok {w : List Tx} (h : isW w) (hl : w.length < 1000) : letters_in w.flatten = some (some w) := by
  unfold letters_in letters_in_l2
  rw [li_all w h _ [] (by simpa using hl)]; rfl
theorem mgL_nodup {κ α : Type} [DecidableEq κ] (l : List (κ × α)) (h : (l.map (·.1)).Nodup) : mgL l = l := by
  have key : ∀ (l d : List (κ × α)), ((d ++ l).map (·.1)).Nodup → l.foldl (fun d p => putL d p.1 p.2) d = d ++ l := by
    intro l
    induction l with
    | nil => intro d _; simp
    | cons p l ih =>
      intro d hd
      rw [List.foldl_cons]
      have hp : p.1 ∉ d.map (·.1) := by
        intro hm
        rw [List.map_append, List.nodup_append] at hd
        exact hd.2.2 _ hm _ (by simp) rfl
      have : putL d p.1 p.2 = d ++ [p] := by unfold putL; rw [if_neg hp]
      rw [this, ih (d ++ [p]) (by rw [List.append_assoc]; exact hd), List.append_assoc]; rfl
  exact (key l [] h).trans (by simp)
end En.Z
set_option maxRecDepth 100000
set_option maxHeartbeats 1000000
namespace En.Y
open PySem PySem.Spec PyProof.Rows L2 Gk En
theorem bnd {α β : Type} {x : Option α} {a : α} {f : α → Option β} (h : x = some a) : (x >>= f) = f a := by rw [h]; rfl
noncomputable def pre (c s : Tx) : Bool := decide (s.take c.length = c)
end En.Y
set_option maxRecDepth 100000
set_option maxHeartbeats 1000000
namespace En.Z
open PySem PySem.Spec PyProof.Rows L2 Gk En.Y
structure WL (w : List Tx) : Prop where
  l : ∀ x ∈ w, isL x = true
  lo : 1 ≤ w.length
  hi : w.length ≤ 8
theorem WL.fl {w : List Tx} (h : WL w) : 1 ≤ w.flatten.length ∧ w.flatten.length ≤ 16 := by
  have := flat_len h.l
  have := h.lo
  have := h.hi
  omega
theorem word_ok {w : List Tx} (h : WL w) : is_word w.flatten = some true := by
  have f := h.fl
  have hi := h.hi
  unfold is_word
  refine (bnd (a := false) ?_).trans ?_
  · unfold is_word_x1
    refine (bnd (a := true) ?_).trans rfl
    unfold is_word_x2
    refine (bnd (lnS_ok (by rw [lim_e]; omega))).trans ?_
    show some _ = some _
    rw [decide_eq_true (show (1 : Int) ≤ (w.flatten.length : Int) by omega), decide_eq_true (show (w.flatten.length : Int) ≤ 16 by omega)]; rfl
  · rw [if_neg (by decide)]
    refine (bnd (letters_in_ok h.l (by omega))).trans ?_
    refine (bnd (a := true) ?_).trans rfl
    unfold is_word_x3
    show some (decide ((w.length : Int) ≤ 8)) = _
    rw [decide_eq_true (show (w.length : Int) ≤ 8 by omega)]
theorem letters_ok {w : List Tx} (h : WL w) : letters_of w.flatten = some w := by
  have hi := h.hi
  unfold letters_of
  refine (bnd (a := some w) ?_).trans ?_
  · unfold letters_of_x1
    refine (bnd (word_ok h)).trans ?_
    rw [if_pos rfl]
    exact (bnd (letters_in_ok h.l (by omega))).trans rfl
  · rw [if_neg (by simp)]; rfl
theorem WL.hd {w : List Tx} (h : WL w) : ∃ x, atI w (0 : Int) = some x ∧ isL x = true := by
  have := h.lo
  obtain ⟨x, e, _, hx⟩ := aget (l := w) (i := 0) (by decide) (by omega)
  exact ⟨x, e, h.l x hx⟩
theorem mpO_map {α β γ : Type} {f : β → Option γ} (g : α → β) (k : α → γ) {l : List α} (hl : l.length ≤ lim) (h : ∀ x ∈ l, f (g x) = some (k x)) : mpO (l.map g) f = some (l.map k) := by
  have key : ∀ l : List α, (∀ x ∈ l, f (g x) = some (k x)) → (l.map g).filterMap f = l.map k := by
    intro l
    induction l with
    | nil => intro _; rfl
    | cons a l ih =>
      intro h
      rw [List.map_cons, List.filterMap_cons_some (h a List.mem_cons_self), ih fun x hx => h x (List.mem_cons_of_mem _ hx), List.map_cons]
  unfold mpO
  rw [fmO_eq f (by rw [List.length_map]; exact hl) fun y hy => ?_, key l h]
  obtain ⟨x, hx, rfl⟩ := List.mem_map.mp hy
  rw [h x hx]; rfl
/-- words -/
structure WW (W : List (List Tx)) : Prop where
  w : ∀ w ∈ W, WL w
  n : W.length ≤ 18
noncomputable def whl (W : List (List Tx)) : List Tx := W.map List.flatten
noncomputable def ini (w : List Tx) : Tx := (atI w (0 : Int)).getD [] ++ ['.']
noncomputable def bar (w : List Tx) : Tx := (w.map fun x => x.take 1).flatten
noncomputable def caps (w : List Tx) : Tx := upp w.flatten
theorem ixl {x : Tx} (h : isL x = true) : ixS x (0 : Int) = some (x.take 1) := by
  have g := isL_len h
  match x, g with
  | c :: r, g =>
    unfold ixS
    rw [if_pos (by rw [lim_e]; omega)]
    have := aN (l := c :: r) (i := 0) (x := c) rfl
    show Option.map _ (atI (c :: r) ((0 : Nat) : Int)) = _
    rw [this]; rfl
theorem bar_len {w : List Tx} (h : WL w) : (bar w).length ≤ 8 := by
  have : ∀ w : List Tx, (w.map fun x => x.take 1).flatten.length ≤ w.length := by
    intro w
    induction w with
    | nil => simp
    | cons x w ih => rw [List.map_cons, List.flatten_cons, List.length_append, List.length_cons, List.length_take]; omega
  have := this w
  have := h.hi
  unfold bar; omega
theorem flat_asc {w : List Tx} (h : ∀ x ∈ w, isL x = true) : w.flatten.all (fun c => c.toNat < 128) = true := by
  induction w with
  | nil => rfl
  | cons x w ih =>
    rw [List.flatten_cons, List.all_append, isL_asc (h x List.mem_cons_self), ih fun y hy => h y (List.mem_cons_of_mem _ hy)]; rfl
theorem ini1 {w : List Tx} (h : WL w) : ((atI w (0 : Int)) >>= fun t => catS t ['.'] >>= fun u => pure u) = some (ini w) := by
  obtain ⟨x, e, hx⟩ := h.hd
  have := isL_len hx
  unfold ini
  rw [e]
  refine (bnd rfl).trans ((bnd (catS_ok (by rw [lim_e]; simp; omega))).trans rfl)
theorem bar1 {w : List Tx} (h : WL w) : mpO w (fun x => ixS x (0 : Int) >>= fun t => pure t) = some (w.map fun x => x.take 1) := by
  have := h.hi
  exact mpO_eq _ (by rw [lim_e]; omega) fun x hx => (bnd (ixl (h.l x hx))).trans rfl
theorem bar2 {w : List Tx} (h : WL w) : joinO [] (w.map fun x => x.take 1) = some (bar w) := joinO_nil (by rw [lim_e]; have := bar_len h; show (bar w).length ≤ _; omega)
theorem cap1 {w : List Tx} (h : WL w) : mpO w (fun x => upS x >>= fun t => pure t) = some (w.map upp) := by
  have := h.hi
  exact mpO_eq _ (by rw [lim_e]; omega) fun x hx => (bnd (upS_L (h.l x hx))).trans rfl
theorem cap2 {w : List Tx} (h : WL w) : joinO [] (w.map upp) = some (caps w) := by
  have e : (w.map upp).flatten = caps w := by unfold caps upp; rw [List.map_flatten]
  have := h.fl
  rw [joinO_nil, e]
  rw [e, lim_e]; unfold caps upp; rw [List.length_map]; omega
theorem whole1 {w : List Tx} (h : WL w) : joinO [] w = some w.flatten := joinO_nil (by rw [lim_e]; have := h.fl; omega)
theorem up1 {w : List Tx} (h : WL w) : upS w.flatten = some (caps w) := upS_ok (by rw [lim_e]; have := h.fl; omega) (flat_asc h.l)
noncomputable def rgN (n : Nat) : List Int := (List.range n).map fun i : Nat => (i : Int)
theorem fst_fm {ws : List Tx} : (rgN ws.length).filterMap (fun x => if x = 0 then some (ws.getD x.toNat []) else none) = ws.take 1 := by
  unfold rgN
  rw [List.filterMap_map]
  cases ws with
  | nil => rfl
  | cons a r =>
    rw [List.length_cons, List.range_succ_eq_map, List.filterMap_cons, List.filterMap_map]
    have : (List.range r.length).filterMap ((((fun x : Int => if x = 0 then some ((a :: r).getD x.toNat []) else none) ∘ fun i : Nat => (i : Int))) ∘ Nat.succ) = [] := by
      rw [List.filterMap_eq_nil_iff]
      intro i _
      dsimp only [Function.comp]
      rw [if_neg (by omega)]
    rw [this]; rfl
theorem lst_fm {ws : List Tx} : (rgN ws.length).filterMap (fun x => if x = (ws.length : Int) - 1 then some (ws.getD x.toNat []) else none) = ws.drop (ws.length - 1) := by
  unfold rgN
  rw [List.filterMap_map]
  rcases List.eq_nil_or_concat ws with rfl | ⟨r, a, rfl⟩
  · rfl
  · rw [List.concat_eq_append, List.length_append, List.length_singleton, List.range_succ, List.filterMap_append]
    have : (List.range r.length).filterMap ((fun x : Int => if x = ((r.length + 1 : Nat) : Int) - 1 then some ((r ++ [a]).getD x.toNat []) else none) ∘ fun i : Nat => (i : Int)) = [] := by
      rw [List.filterMap_eq_nil_iff]
      intro i hi
      have := List.mem_range.mp hi
      dsimp only [Function.comp]
      rw [if_neg (by omega)]
    rw [this, List.nil_append, List.filterMap_cons]
    have e2 : ((fun x : Int => if x = ((r.length + 1 : Nat) : Int) - 1 then some ((r ++ [a]).getD x.toNat []) else none) ∘ fun i : Nat => (i : Int)) r.length = some a := by
      dsimp only [Function.comp]
      rw [if_pos (by omega)]; simp
    rw [e2]; simp
section
variable {W : List (List Tx)} (h : WW W)
include h
theorem W_lim : W.length ≤ lim := by have := h.n; rw [lim_e]; omega
theorem whl_len : (whl W).length ≤ 18 := by unfold whl; rw [List.length_map]; exact h.n
theorem ini_p (t : Bool) : as_initials (Lv.mk t (whl W)) = some (W.map ini) := by
  refine (bnd (bnd (mpO_map List.flatten ini (W_lim h) fun w hw => ?_))).trans rfl
  exact (bnd (letters_ok (h.w w hw))).trans (ini1 (h.w w hw))
theorem bar_p (t : Bool) : as_bare (Lv.mk t (whl W)) = some (W.map bar) := by
  refine (bnd (bnd (mpO_map List.flatten bar (W_lim h) fun w hw => ?_))).trans rfl
  have g := h.w w hw
  refine (bnd ?_).trans rfl
  unfold bare bare_c1
  refine (bnd ((bnd (letters_ok g)).trans ((bnd (bar1 g)).trans rfl))).trans ((bnd (bar2 g)).trans rfl)
theorem cap_p (t : Bool) : in_capitals (Lv.mk t (whl W)) = some (W.map caps) := by
  refine (bnd (bnd (mpO_map List.flatten caps (W_lim h) fun w hw => ?_))).trans rfl
  exact (bnd (up1 (h.w w hw))).trans rfl
theorem fst_p (t : Bool) : first_alone (Lv.mk t (whl W)) = some ((whl W).take 1) := by
  show some (cutA (whl W) none (some 1)) = _
  rw [cut_l _ (by decide)]; rfl
theorem lst_p (t : Bool) : last_alone (Lv.mk t (whl W)) = some ((whl W).drop ((whl W).length - 1)) := by
  show some (cutA (whl W) (some (-1)) none) = _
  unfold cutA HT.sIx
  dsimp only
  rw [if_pos (by decide), show (-1 + ((whl W).length : Int)).toNat = (whl W).length - 1 by omega, List.take_of_length_le (by rw [List.length_drop]; omega)]
theorem ini_d : l_due_c1 W = some (W.map ini) := (bnd (mpO_eq ini (W_lim h) fun w hw => ini1 (h.w w hw))).trans rfl
theorem bar_d : l_due_c4 W = some (W.map bar) := by
  refine (bnd (mpO_eq bar (W_lim h) fun w hw => ?_)).trans rfl
  exact (bnd ((bnd (bar1 (h.w w hw))).trans rfl)).trans ((bnd (bar2 (h.w w hw))).trans rfl)
theorem cap_d : l_due_c10 W = some (W.map caps) := by
  refine (bnd (mpO_eq caps (W_lim h) fun w hw => ?_)).trans rfl
  exact (bnd ((bnd (cap1 (h.w w hw))).trans rfl)).trans ((bnd (cap2 (h.w w hw))).trans rfl)
theorem whl_d : l_due_c16 W = some (whl W) := by
  refine (bnd (mpO_eq List.flatten (W_lim h) fun w hw => ?_)).trans rfl
  exact (bnd (whole1 (h.w w hw))).trans rfl
theorem whl_c : law_c12 W = some (whl W) := by
  refine (bnd (mpO_eq List.flatten (W_lim h) fun w hw => ?_)).trans rfl
  exact (bnd (whole1 (h.w w hw))).trans rfl
end
theorem at_rg {ws : List Tx} {x : Int} (hx : x ∈ rgN ws.length) : atI ws x = some (ws.getD x.toNat []) := by
  obtain ⟨i, hi, rfl⟩ := List.mem_map.mp hx
  have := List.mem_range.mp hi
  rw [aNn (by omega) (by omega), List.getD_eq_getElem?_getD, List.getElem?_eq_getElem (by omega)]; rfl
theorem fst_d {ws : List Tx} (hl : ws.length ≤ 18) : l_due_c19 ws = some (ws.take 1) := by
  unfold l_due_c19
  refine (bnd (rngO_ok (by omega) (by omega))).trans ?_
  refine (bnd (fmO_eq (l := rgN ws.length) (fun x => if x = 0 then some (ws.getD x.toNat []) else none) (by rw [lim_e]; unfold rgN; rw [List.length_map, List.length_range]; omega) fun x hx => ?_)).trans (congrArg some fst_fm)
  unfold l_due_e20
  by_cases e : x = 0
  · rw [if_pos (decide_eq_true e), if_pos e, at_rg hx]; rfl
  · rw [if_neg (by simpa using e), if_neg e]; rfl
theorem lst_d {ws : List Tx} (hl : ws.length ≤ 18) : l_due_c22 ws = some (ws.drop (ws.length - 1)) := by
  unfold l_due_c22
  refine (bnd (rngO_ok (by omega) (by omega))).trans ?_
  refine (bnd (fmO_eq (l := rgN ws.length) (fun x => if x = (ws.length : Int) - 1 then some (ws.getD x.toNat []) else none) (by rw [lim_e]; unfold rgN; rw [List.length_map, List.length_range]; omega) fun x hx => ?_)).trans (congrArg some lst_fm)
  unfold l_due_e23
  by_cases e : x = (ws.length : Int) - 1
  · rw [if_pos (decide_eq_true e), if_pos e, at_rg hx]; rfl
  · rw [if_neg (by simpa using e), if_neg e]; rfl
end En.Z
set_option maxRecDepth 100000
set_option maxHeartbeats 1000000
namespace En.Z
open PySem PySem.Spec PyProof.Rows L2 Gk En.Y
open Cd (en)
structure Wq (d : PyData) (n m : Nat) : Prop where
  sh : d.showable = true
  ls : PySem.PyData.leavesShort 70 d = true
  wt : PySem.PyData.weight d ≤ n
  dp : d.depth ≤ m
structure WqA (ds : List PyData) (n m : Nat) : Prop where
  sh : PyData.showableAll ds = true
  ls : PySem.PyData.leavesShortAll 70 ds = true
  wt : PySem.PyData.weightAll ds ≤ n
  dp : PyData.depthAll ds ≤ m
structure WqK (ds : List (PyData × PyData)) (n m : Nat) : Prop where
  sh : PyData.showableKv ds = true
  ls : PySem.PyData.leavesShortKv 70 ds = true
  wt : PySem.PyData.weightKv ds ≤ n
  dp : PyData.depthKv ds ≤ m
theorem Wq.fits {d : PyData} {n m : Nat} (h : Wq d n m) (hn : n ≤ 2 ^ 17) : d.shown.length ≤ sizeLine := by
  have h1 := PySem.PyData.shown_le 70 (by decide) d h.ls
  have h2 := h.wt
  have h3 : (70 + 2) * PySem.PyData.weight d ≤ 72 * 131072 := Nat.mul_le_mul (by omega) (by omega)
  rw [sizeLine_eq]
  omega
theorem Wq.none : Wq .none 0 0 := ⟨rfl, rfl, Nat.le_refl _, Nat.le_refl _⟩
theorem Wq.bool (b : Bool) : Wq (.bool b) 0 0 := ⟨rfl, rfl, Nat.le_refl _, Nat.le_refl _⟩
theorem Wq.int {i : Int} (h : i.natAbs < 10 ^ 60) : Wq (.int i) 200 0 := by
  have lg : i.natAbs.log2 < 200 := by
    by_cases z : i.natAbs = 0
    · rw [z]; decide
    · exact (Nat.log2_lt z).mpr (Nat.lt_trans h (by decide))
  refine ⟨?_, ?_, ?_, Nat.le_refl _⟩
  · show decide _ = true; rw [decide_eq_true_eq]; omega
  · show decide _ = true
    rw [decide_eq_true_eq]
    have e := PySem.int_text_length_le10 (k := 60) (by decide) h
    show (Str.ofString (toString i)).length ≤ 70
    rw [PySem.ofString_length]; omega
  · show (if i == 0 then 0 else i.natAbs.log2 + 1) ≤ 200
    split <;> omega
theorem Wq.str {l : List Nat} (h : ∀ c ∈ l, c < 0x110000) : Wq (.str (tx l)) l.length 0 := by
  have n := Nice.str h
  exact ⟨n.sh, n.ls, n.wt, n.dp⟩
theorem Wq.mono {d : PyData} {n m n' m' : Nat} (h : Wq d n m) (a : n ≤ n') (b : m ≤ m') : Wq d n' m' := ⟨h.sh, h.ls, Nat.le_trans h.wt a, Nat.le_trans h.dp b⟩
theorem WqA.mono {d : List PyData} {n m n' m' : Nat} (h : WqA d n m) (a : n ≤ n') (b : m ≤ m') : WqA d n' m' := ⟨h.sh, h.ls, Nat.le_trans h.wt a, Nat.le_trans h.dp b⟩
theorem WqA.nil : WqA [] 0 0 := ⟨rfl, rfl, Nat.le_refl _, Nat.le_refl _⟩
theorem WqA.cons {d : PyData} {ds : List PyData} {n m k j : Nat} (h : Wq d n m) (a : WqA ds k j) : WqA (d :: ds) (n + 1 + k) (max m j) := by
  refine ⟨?_, ?_, ?_, ?_⟩
  · show (d.showable && PyData.showableAll ds) = true; rw [h.sh, a.sh]; rfl
  · show (PySem.PyData.leavesShort 70 d && PySem.PyData.leavesShortAll 70 ds) = true; rw [h.ls, a.ls]; rfl
  · show PySem.PyData.weight d + 1 + PySem.PyData.weightAll ds ≤ _
    have := h.wt; have := a.wt; omega
  · show max d.depth (PyData.depthAll ds) ≤ _
    have := h.dp; have := a.dp; omega
theorem WqK.cons {a b : PyData} {ds : List (PyData × PyData)} {n k : Nat} (h : Wq a n 0) (h' : Wq b 0 0) (q : WqK ds k 0) : WqK ((a, b) :: ds) (n + 2 + k) 0 := by
  refine ⟨?_, ?_, ?_, ?_⟩
  · show (a.showable && b.showable && PyData.showableKv ds) = true; rw [h.sh, h'.sh, q.sh]; rfl
  · show (PySem.PyData.leavesShort 70 a && PySem.PyData.leavesShort 70 b && PySem.PyData.leavesShortKv 70 ds) = true; rw [h.ls, h'.ls, q.ls]; rfl
  · show PySem.PyData.weight a + PySem.PyData.weight b + 2 + PySem.PyData.weightKv ds ≤ _
    have := h.wt; have := h'.wt; have := q.wt; omega
  · show max (max a.depth b.depth) (PyData.depthKv ds) ≤ _
    have := h.dp; have := h'.dp; have := q.dp; omega
theorem WqA.list {ds : List PyData} {n m : Nat} (h : WqA ds n m) : Wq (.list ds) n (m + 1) := ⟨h.sh, h.ls, h.wt, Nat.succ_le_succ h.dp⟩
theorem WqA.tuple {ds : List PyData} {n m : Nat} (h : WqA ds n m) : Wq (.tuple ds) n (m + 1) := ⟨h.sh, h.ls, h.wt, Nat.succ_le_succ h.dp⟩
theorem WqK.dict {ds : List (PyData × PyData)} {n m : Nat} (h : WqK ds n m) : Wq (.dict ds) n (m + 1) := ⟨h.sh, h.ls, h.wt, Nat.succ_le_succ h.dp⟩
structure NQ (n m : Nat) (t : T) : Prop where
  ex : ∃ d, t.data = some d ∧ Wq d n m
structure NQs (n m : Nat) (ts : List T) : Prop where
  ex : ∃ ds, T.dataA ts = some ds ∧ WqA ds n m
theorem NQ.mono {n m n' m' : Nat} {t : T} (h : NQ n m t) (a : n ≤ n') (b : m ≤ m') : NQ n' m' t := by obtain ⟨d, h1, h2⟩ := h.ex; exact ⟨d, h1, h2.mono a b⟩
theorem NQs.mono {n m n' m' : Nat} {t : List T} (h : NQs n m t) (a : n ≤ n') (b : m ≤ m') : NQs n' m' t := by obtain ⟨d, h1, h2⟩ := h.ex; exact ⟨d, h1, h2.mono a b⟩
theorem NQ.non : NQ 0 0 .non := ⟨_, rfl, Wq.none⟩
theorem NQ.bl (b : Bool) : NQ 0 0 (.bl b) := ⟨_, rfl, Wq.bool b⟩
theorem NQ.int {i : Int} (h : i.natAbs < 10 ^ 60) : NQ 200 0 (.int i) := ⟨_, rfl, Wq.int h⟩
theorem NQ.str {l : List Nat} (h : ∀ c ∈ l, c < 0x110000) : NQ l.length 0 (.str l) := ⟨_, rfl, Wq.str h⟩
theorem NQs.nil : NQs 0 0 [] := ⟨_, dat_nil, WqA.nil⟩
theorem NQs.cons {n m k j : Nat} {t : T} {ts : List T} (h : NQ n m t) (hs : NQs k j ts) : NQs (n + 1 + k) (max m j) (t :: ts) := by
  obtain ⟨d, h1, h2⟩ := h.ex; obtain ⟨ds, h3, h4⟩ := hs.ex
  exact ⟨_, dat_cons h1 h3, WqA.cons h2 h4⟩
theorem NQs.all {n m : Nat} : ∀ {ts : List T}, (∀ t ∈ ts, NQ n m t) → NQs ((n + 1) * ts.length) m ts
  | [], _ => NQs.nil.mono (by omega) (by omega)
  | t :: ts, h => (NQs.cons (h t List.mem_cons_self) (NQs.all fun x hx => h x (List.mem_cons_of_mem _ hx))).mono (by rw [List.length_cons, Nat.mul_add]; omega) (by omega)
theorem NQs.lst {n m : Nat} {o : Bool} {ts : List T} (h : NQs n m ts) : NQ n (m + 1) (.lst o ts) := by
  obtain ⟨ds, h3, h4⟩ := h.ex
  exact ⟨_, by rw [da_lst, h3]; rfl, h4.list⟩
theorem NQs.tup {n m : Nat} {ts : List T} (h : NQs n m ts) : NQ n (m + 1) (.tup ts) := by
  obtain ⟨ds, h3, h4⟩ := h.ex
  exact ⟨_, by rw [da_tup, h3]; rfl, h4.tuple⟩
theorem reprT_q {n m : Nat} {t : T} (h : NQ n m t) (hn : n ≤ 2 ^ 17) (hm : m ≤ 40) : ∃ l, reprT t = some (.str l) := by
  obtain ⟨d, h1, h2⟩ := h.ex
  unfold reprT; rw [h1]
  dsimp only
  rw [if_pos ⟨h2.sh, Nat.le_trans h2.dp hm, h2.fits hn⟩]
  exact ⟨_, rfl⟩
theorem rp_q {α : Type} [Cd α] {n m : Nat} {x : α} (h : NQ n m (en false x)) (hn : n ≤ 2 ^ 17) (hm : m ≤ 40) : ∃ w, rpO x = some w := by
  obtain ⟨l, e⟩ := reprT_q h hn hm
  unfold rpO
  rw [e]; exact ⟨_, rfl⟩
theorem nq_tx (s : Tx) : NQ s.length 0 (en false s) := by
  have h : NQ (nn s).length 0 (.str (nn s)) := NQ.str fun c hc => by
    obtain ⟨x, _, rfl⟩ := List.mem_map.mp hc
    have := x.valid
    have h2 : x.toNat < 0x110000 := by
      rcases this with h | h
      · have : x.val.toNat < 0xd800 := h; show x.val.toNat < _; omega
      · exact h.2
    exact h2
  rw [nn_len] at h; exact h
theorem nq_l {α : Type} [Cd α] {n m : Nat} {l : List α} (h : ∀ x ∈ l, NQ n m (en false x)) : NQ ((n + 1) * l.length) (m + 1) (en false l) := by
  have := NQs.all (n := n) (m := m) (ts := l.map (en false)) (fun t ht => by obtain ⟨x, hx, rfl⟩ := List.mem_map.mp ht; exact h x hx)
  rw [List.length_map] at this
  exact this.lst
theorem nq_yof {α : Type} [Cd α] [Ow α] {x : α} {n m : Nat} (h : NQ n m (en false x)) : NQ n m (en false (Yv.of x)) := by rw [q_yof]; exact h
noncomputable def rg (n : Int) : List Int := (List.range n.toNat).map fun i : Nat => (i : Int)
theorem rg_len (n : Int) : (rg n).length = n.toNat := by unfold rg; rw [List.length_map, List.length_range]
theorem rng_ok {n : Int} (h : n < 2 ^ 62) (h2 : -(2 ^ 62) ≤ n) : rngO n = some (rg n) := if_pos ⟨h, h2⟩
theorem rg_at {n x : Int} {p q : List Int} (h : rg n = p ++ x :: q) : x = p.length ∧ p.length < n.toNat := by
  have hl := congrArg List.length h
  rw [rg_len, List.length_append, List.length_cons] at hl
  have e : (rg n)[p.length]? = some x := by rw [h, List.getElem?_append_right (Nat.le_refl _), Nat.sub_self]; rfl
  unfold rg at e
  rw [List.getElem?_map, List.getElem?_range (by omega)] at e
  exact ⟨(Option.some.inj e).symm, by omega⟩
noncomputable def sg (i : Int) : Char := cSm.getD i.toNat 'a'
theorem sg_get {i : Int} (h : 0 ≤ i) (h2 : i < 26) : cSm[i.toNat]? = some (sg i) := by
  have hl : i.toNat < cSm.length := by show _ < 26; omega
  unfold sg
  rw [List.getD_eq_getElem?_getD, List.getElem?_eq_getElem hl]; rfl
theorem sg_mem {i : Int} (h : 0 ≤ i) (h2 : i < 26) : sg i ∈ cSm := List.mem_of_getElem? (sg_get h h2)
theorem ix_sg {i : Int} (h : 0 ≤ i) (h2 : i < 26) : ixS cSmall i = some [sg i] := by
  unfold ixS
  rw [if_pos (by rw [lim_e]; decide), aNn (l := cSmall) h (by show i < 26; omega), show cSmall[i.toNat]? = some (sg i) from sg_get h h2]
  rfl
theorem md {i : Int} : 0 ≤ i % 26 ∧ i % 26 < 26 := ⟨Int.emod_nonneg _ (by decide), Int.emod_lt_of_pos _ (by decide)⟩
theorem cutS_l {s : Tx} {k : Int} (h : s.length ≤ lim) (hk : 0 ≤ k) : cutS s none (some k) = some (s.take k.toNat) := by
  unfold cutS; rw [if_pos h, cut_l _ hk]
theorem cutS_r {s : Tx} {k : Int} (h : s.length ≤ lim) (hk : 0 ≤ k) : cutS s (some k) none = some (s.drop k.toNat) := by
  unfold cutS; rw [if_pos h, cut_r _ hk]
theorem WqK.cons2 {a b : PyData} {ds : List (PyData × PyData)} {n n' k : Nat} (h : Wq a n 0) (h' : Wq b n' 0) (q : WqK ds k 0) : WqK ((a, b) :: ds) (n + n' + 2 + k) 0 := by
  refine ⟨?_, ?_, ?_, ?_⟩
  · show (a.showable && b.showable && PyData.showableKv ds) = true; rw [h.sh, h'.sh, q.sh]; rfl
  · show (PySem.PyData.leavesShort 70 a && PySem.PyData.leavesShort 70 b && PySem.PyData.leavesShortKv 70 ds) = true; rw [h.ls, h'.ls, q.ls]; rfl
  · show PySem.PyData.weight a + PySem.PyData.weight b + 2 + PySem.PyData.weightKv ds ≤ _
    have := h.wt; have := h'.wt; have := q.wt; omega
  · show max (max a.depth b.depth) (PyData.depthKv ds) ≤ _
    have := h.dp; have := h'.dp; have := q.dp; omega
end En.Z
set_option maxRecDepth 100000
set_option maxHeartbeats 1000000
namespace En.Z
open PySem PySem.Spec PyProof.Rows L2 Gk En.Y
open Cd (en)
structure Bk (y : Yv) : Prop where
  no : ∀ v, mode_of_1 (Lb.mk v (Uv.of y)) = some (.inl (Ee.mk "NoMode" (Fv.of (Pv.mk 0 v))))
  go : (yIs "list" y = some false ∧ ∃ w, rpO y = some w) ∨ (yIs "list" y = some true ∧ ∃ y', apY y c_more = some y' ∧ ∃ w, rpO y' = some w)
theorem u_y {α : Type} [Cd α] [Ow α] (x : α) : Uv.of (Yv.of x) = Uv.of x := Uv.ext (Cd.frz true x)
theorem shown_y {α : Type} [Cd α] [Ow α] {x : α} {n m : Nat} (h : NQ n m (en false x)) (hn : n ≤ 100000) (hm : m ≤ 30) : ∃ w, rpO (Yv.of x) = some w :=
  rp_q (nq_yof h) (by omega) (by omega)
theorem bk_tx {s : Tx} (hs : s.length ≤ 1000) (hb : (wgO mds_MODES s).isNone = true) : Bk (Yv.of s) where
  no := fun v => by
    rw [u_y]
    unfold mode_of_1
    refine (bnd (a := true) (show subB "str" "str" = some true by decide +kernel)).trans ?_
    rw [if_neg (by decide)]
    refine (bnd (asS_of s)).trans ?_
    rw [Option.isNone_iff_eq_none.mp hb]; rfl
  go := .inl ⟨show subB "str" "list" = some false by decide +kernel, shown_y (nq_tx s) (by omega) (by omega)⟩
theorem no_tx {α : Type} [Cd α] [Ow α] {x : α} (h : uIs "str" (Uv.of x) = some false) (v : V) : mode_of_1 (Lb.mk v (Uv.of (Yv.of x))) = some (.inl (Ee.mk "NoMode" (Fv.of (Pv.mk 0 v)))) := by
  rw [u_y]
  unfold mode_of_1
  refine (bnd h).trans ?_
  rw [if_pos (by decide)]; rfl
theorem bk_no {α : Type} [Cd α] [Ow α] {x : α} (h : uIs "str" (Uv.of x) = some false) (h2 : yIs "list" (Yv.of x) = some false) {n m : Nat} (h3 : NQ n m (en false x)) (hn : n ≤ 100000) (hm : m ≤ 30) : Bk (Yv.of x) := ⟨no_tx h, .inl ⟨h2, shown_y h3 hn hm⟩⟩
theorem ap_y {l : List Tx} (h : l.length < lim) (x : Tx) : apY (Yv.of l) x = some (Yv.of (l ++ [x])) := by
  unfold apY Yv.of
  show (if (l.map (en true)).length < lim then _ else _) = _
  rw [if_pos (by rw [List.length_map]; exact h)]
  congr 1
  show Yv.mk _ _ = Yv.mk _ _
  congr 1
  show T.lst true _ = T.lst true _
  rw [List.map_append]; rfl
theorem bk_l {l : List Tx} (hl : l.length ≤ 100) (hs : ∀ x ∈ l, x.length ≤ 100) : Bk (Yv.of l) where
  no := no_tx (show subB "list" "str" = some false by decide +kernel)
  go := .inr ⟨show subB "list" "list" = some true by decide +kernel, _, ap_y (by rw [lim_e]; omega) _, shown_y (nq_l (l := l ++ [c_more]) (n := 100) (m := 0) fun x hx => (nq_tx x).mono (by
    rcases List.mem_append.mp hx with q | q
    · exact hs x q
    · rw [List.mem_singleton.mp q]; decide) (by omega)) (by rw [List.length_append, List.length_singleton]; omega) (by omega)⟩
theorem nq_d0 : NQ 0 1 (en false (⟨[]⟩ : Dc Tx Unit)) := by
  refine ⟨_, ?_, (show WqK [] 0 0 from ⟨rfl, rfl, Nat.le_refl _, Nat.le_refl _⟩).dict⟩
  show (T.dct false [] []).data = _
  rw [T.data, dat_nil]; rfl
theorem nq_d1 (m : Tx) : NQ (2 * m.length + 2) 1 (en false (mgD [(m, m)] : Dc Tx Tx)) := by
  obtain ⟨d, h1, h2⟩ := (nq_tx m).ex
  have e : (mgD [(m, m)] : Dc Tx Tx) = ⟨[(m, m)]⟩ := by unfold mgD; rw [mgL_nodup _ (by simp)]
  have h0 : (T.str (nn m)).data = some d := h1
  rw [da_str] at h0
  cases h0
  refine ⟨.dict [(PyData.str (tx (nn m)), PyData.str (tx (nn m)))], ?_, ((WqK.cons2 h2 h2 (show WqK [] 0 0 from ⟨rfl, rfl, Nat.le_refl _, Nat.le_refl _⟩)).dict.mono (by omega) (by omega))⟩
  rw [e]
  show (T.dct false [.inr (nn m)] [.str (nn m)]).data = _
  rw [T.data, dat_cons (da_str _) dat_nil]; rfl
noncomputable def six : List Tx := [c_full, c_initials, c_first, c_last, c_bare, c_high]
theorem none6 : ∀ m ∈ six, ∀ j < 8, j < m.length → ((wgO mds_MODES (m.take j ++ m.drop (j + 1))).isNone && (wgO mds_MODES (m.take j ++ [' '] ++ m.drop j)).isNone && (wgO mds_MODES (m.take j ++ [up1c (m.getD j 'a')] ++ m.drop (j + 1))).isNone && (wgO mds_MODES (m ++ ['s'])).isNone && decide ((m.getD j 'a').toNat < 128)) = true := by decide +kernel
theorem none0 : (wgO mds_MODES []).isNone = true ∧ (wgO mds_MODES c_any).isNone = true := by decide +kernel
theorem six_len : ∀ m ∈ six, 4 ≤ m.length ∧ m.length ≤ 8 := by decide +kernel
theorem bad_ok {n : Nat} {b : List Int} {m : Tx} (h : Bx n b) (hn : n ≤ 800000) (hm : m ∈ six) : ∃ y b', l_bad b m = some (y, b') ∧ Bk y ∧ Bx (n + 2) b' := by
  obtain ⟨l4, l8⟩ := six_len m hm
  unfold l_bad
  rw [bnd (lnS_ok (show m.length ≤ lim by rw [lim_e]; omega))]
  obtain ⟨k, b1, e1, k1, k2, h⟩ := take_ok h (by omega) (many := (m.length : Int)) (by omega) (by omega)
  rw [bnd e1]
  have nj := none6 m hm k.toNat (by omega) (by omega)
  simp only [Bool.and_eq_true, decide_eq_true_eq] at nj
  obtain ⟨⟨⟨⟨j1, j2⟩, j3⟩, j4⟩, j5⟩ := nj
  have kk : (k + 1).toNat = k.toNat + 1 := by omega
  have t1 := List.length_take (i := k.toNat) (l := m)
  have t2 := List.length_drop (i := k.toNat) (l := m)
  have t3 := List.length_drop (i := k.toNat + 1) (l := m)
  rw [bnd (cutS_l (s := m) (k := k) (by rw [lim_e]; omega) k1)]
  rw [bnd (cutS_r (s := m) (k := k + 1) (by rw [lim_e]; omega) (by omega)), kk]
  rw [bnd (catS_ok (by rw [lim_e]; omega))]
  have l1 : ∀ c : Char, ([c] : Tx).length = 1 := fun _ => rfl
  rw [bnd (catS_ok (by rw [lim_e, l1]; omega))]
  rw [bnd (cutS_r (s := m) (k := k) (by rw [lim_e]; omega) k1)]
  rw [bnd (catS_ok (by rw [lim_e, List.length_append, l1]; omega))]
  have ei : ixS m k = some [m.getD k.toNat 'a'] := by
    unfold ixS
    rw [if_pos (by rw [lim_e]; omega), aNn k1 (by omega), List.getD_eq_getElem?_getD, List.getElem?_eq_getElem (by omega)]; rfl
  rw [bnd ei]
  rw [bnd (show upS [m.getD k.toNat 'a'] = some [up1c (m.getD k.toNat 'a')] from upS_ok (by rw [l1, lim_e]; omega) (by rw [List.all_cons, List.all_nil, decide_eq_true j5]; rfl))]
  rw [bnd (catS_ok (by rw [lim_e, l1]; omega))]
  rw [bnd (catS_ok (by rw [lim_e, List.length_append, l1]; omega))]
  rw [bnd (catS_ok (by rw [lim_e, l1]; omega))]
  rw [bnd (catL_ok (by rw [lim_e]; simp))]
  obtain ⟨w, b3, e3, w1, w2, h⟩ := take_ok h (by omega) (many := 13) (by decide) (by decide)
  rw [bnd e3]
  have a0 : Bk (Yv.of (m.take k.toNat ++ m.drop (k.toNat + 1))) := bk_tx (by rw [List.length_append]; omega) j1
  have a1 : Bk (Yv.of (m.take k.toNat ++ [' '] ++ m.drop k.toNat)) := bk_tx (by rw [List.length_append, List.length_append, l1]; omega) j2
  have a2 : Bk (Yv.of (m.take k.toNat ++ [up1c (m.getD k.toNat 'a')] ++ m.drop (k.toNat + 1))) := bk_tx (by rw [List.length_append, List.length_append, l1]; omega) j3
  have b0 : Bk (Yv.of ([] : Tx)) := bk_tx (by decide) none0.1
  have b1 : Bk (Yv.of (m ++ ['s'])) := bk_tx (by rw [List.length_append, l1]; omega) j4
  have b2 : Bk (Yv.of c_any) := bk_tx (by decide) none0.2
  have a3 : Bk (Yv.of ()) := bk_no (show subB "NoneType" "str" = some false by decide +kernel) (show subB "NoneType" "list" = some false by decide +kernel) NQ.non (by omega) (by omega)
  have a4 : Bk (Yv.of (0 : Int)) := bk_no (show subB "int" "str" = some false by decide +kernel) (show subB "int" "list" = some false by decide +kernel) (NQ.int (i := 0) (by decide)) (by omega) (by omega)
  have a5 : Bk (Yv.of true) := bk_no (show subB "bool" "str" = some false by decide +kernel) (show subB "bool" "list" = some false by decide +kernel) (NQ.bl true) (by omega) (by omega)
  have a6 : Bk (Yv.of ([m] : List Tx)) := bk_l (by show 1 ≤ 100; omega) fun x hx => by rw [List.mem_singleton.mp hx]; omega
  have a7 : Bk (Yv.of (P1.mk m)) := bk_no (show subB "tuple" "str" = some false by decide +kernel) (show subB "tuple" "list" = some false by decide +kernel) (n := 100) (m := 1) ((NQs.cons (nq_tx m) NQs.nil).tup.mono (by omega) (by omega)) (by omega) (by omega)
  have a8 : Bk (Yv.of (⟨[]⟩ : Dc Tx Unit)) := bk_no (show subB "dict" "str" = some false by decide +kernel) (show subB "dict" "list" = some false by decide +kernel) nq_d0 (by omega) (by omega)
  have a9 : Bk (Yv.of (mgD [(m, m)] : Dc Tx Tx)) := bk_no (show subB "dict" "str" = some false by decide +kernel) (show subB "dict" "list" = some false by decide +kernel) (nq_d1 m) (by omega) (by omega)
  have key : ∀ (l : List Yv), (∀ y ∈ l, Bk y) → ∀ w : Int, 0 ≤ w → w < l.length → ∃ y, atI l w = some y ∧ Bk y := fun l hl w p q => by
    obtain ⟨y, e, _, hy⟩ := aget (l := l) p q
    exact ⟨y, e, hl y hy⟩
  obtain ⟨y, ey, hy⟩ := key (([m.take k.toNat ++ m.drop (k.toNat + 1), m.take k.toNat ++ [' '] ++ m.drop k.toNat, m.take k.toNat ++ [up1c (m.getD k.toNat 'a')] ++ m.drop (k.toNat + 1)] : List Tx).map Yv.of ++ [(Yv.of ([] : Tx)), (Yv.of (m ++ ['s'])), (Yv.of ()), (Yv.of (0 : Int)), (Yv.of true), (Yv.of ([m] : (List Tx))), (Yv.of (P1.mk m)), (Yv.of (⟨[]⟩ : (Dc Tx Unit))), (Yv.of (mgD [(m, m)])), (Yv.of c_any)]) (fun y hy => by
      rw [List.mem_append] at hy
      rcases hy with hy | hy
      · simp only [List.map_cons, List.map_nil, List.mem_cons, List.not_mem_nil, or_false] at hy
        rcases hy with rfl | rfl | rfl <;> assumption
      · simp only [List.mem_cons, List.not_mem_nil, or_false] at hy
        rcases hy with rfl | rfl | rfl | rfl | rfl | rfl | rfl | rfl | rfl | rfl <;> assumption) w w1 (by simpa using w2)
  exact ⟨y, b3, (bnd ey).trans rfl, hy, h⟩
/-- the very thing is told, whatever becomes of it -/
theorem told_bad (v : V) (y : Yv) : rpT (T.subP 0 v (en false y) (en true (Fv.of (Pv.mk 0 v)))) = rpO y := by
  have e : T.subP 0 v (en false y) (en true (Fv.of (Pv.mk 0 v))) = en false y := by
    show T.subP 0 v (en false y) (.ptr 0 v) = en false y
    simp [T.subP]
  rw [e]; rfl
theorem refused_ok {y : Yv} (hy : Bk y) : ∃ y', l_refused y = some (true, y') := by
  have z : ∃ y2, (∀ v, l_refused_i4 (Lb.mk v y) = some (Lb.mk v y2)) ∧ ∃ w, rpO y2 = some w := by
    rcases hy.go with ⟨a, b⟩ | ⟨a, y', b, c⟩
    · refine ⟨y, fun v => (bnd a).trans ?_, b⟩
      rw [if_neg (by decide)]; rfl
    · refine ⟨y', fun v => (bnd a).trans ?_, c⟩
      rw [if_pos rfl]
      exact (bnd b).trans rfl
  obtain ⟨y2, e2, w, ew⟩ := z
  refine ⟨y2, ?_⟩
  have q : ∀ v, l_refused_q1 (Lb.mk v y) = some (.inr (true, y2)) := fun v => by
    have e3 : l_refused_q3 (Lb.mk v y) = some (.inr (.inl (Ee.mk "NoMode" (Fv.of (Pv.mk 0 v))))) := by
      unfold l_refused_q3
      exact (bnd (hy.no v)).trans rfl
    have e4 : l_refused_w2_0 (Ee.mk "NoMode" (Fv.of (Pv.mk 0 v))) (Lb.mk v y) = some (true, y2) := by
      unfold l_refused_w2_0
      refine (bnd (e2 v)).trans ?_
      refine (bnd (a := ()) (if_pos rfl)).trans ?_
      refine (bnd ((told_bad v y2).trans ew)).trans ?_
      refine (bnd ew).trans ?_
      rw [decide_eq_true rfl]; rfl
    have e5 : l_refused_q2 (Lb.mk v y) = some (.inr (true, y2)) := by
      unfold l_refused_q2
      refine (bnd e3).trans ?_
      dsimp only
      refine (bnd sx_NoMode_NoMode).trans ?_
      rw [if_pos rfl]
      exact (bnd e4).trans rfl
    unfold l_refused_q1
    exact (bnd e5).trans rfl
  unfold l_refused l_refused_v5
  exact (bnd (labO_ok q)).trans rfl
end En.Z
set_option maxRecDepth 100000
set_option maxHeartbeats 1000000
namespace En.Z
open PySem PySem.Spec PyProof.Rows L2 Gk En.Y
open Cd (en)
theorem ltr_mk {c : Char} (hc : c ∈ cSm ∨ c ∈ cCa) {m : Tx} (hm : m = [] ∨ ∃ k ∈ cMk, m = [k]) : isL ([c] ++ m) = true := by
  rcases hm with rfl | ⟨k, hk, rfl⟩
  · show (decide (c ∈ cSm) || decide (c ∈ cCa)) = true
    rcases hc with h | h <;> simp [h]
  · show ((decide (c ∈ cSm) || decide (c ∈ cCa)) && decide (k ∈ cMk)) = true
    rcases hc with h | h <;> simp [h, hk]
theorem drawn_ok {n : Nat} {b : List Int} (h : Bx n b) (hn : n ≤ 900000) : ∃ w b', l_drawn b = some (w, b') ∧ WL w ∧ Bx (n + 30) b' := by
  obtain ⟨d, b1, e1, p1, p2, h⟩ := take_ok h (by omega) (many := 8) (by decide) (by decide)
  obtain ⟨⟨b2, w⟩, e, i1, i2, i3⟩ := forO_pre (f := fun x (s : List Int × List Tx) => l_drawn_b2 s.1 cSmall s.2 x) (fun pre s => Bx (n + 1 + 3 * pre.length) s.1 ∧ s.2.length = pre.length ∧ ∀ x ∈ s.2, isL x = true) (rg (1 + d)) [] (b1, []) ⟨h.mono (by simp), rfl, fun _ hc => (nomatch hc)⟩
    fun p x q s e ⟨i1, i2, i3⟩ => by
      obtain ⟨s1, s2⟩ := s
      dsimp only at i1 i2 i3 ⊢
      have hp := (rg_at e).2
      unfold l_drawn_b2
      obtain ⟨w, b3, e3, w1, w2, h⟩ := take_ok i1 (by omega) (many := 3) (by decide) (by decide)
      rw [bnd e3]
      obtain ⟨k, b4, e4, k1, k2, h⟩ := take_ok h (by omega) (many := 26) (by decide) (by decide)
      rw [bnd e4, bnd (show ixS cSmall k = some [sg k] from ix_sg k1 k2)]
      obtain ⟨m, b5, e5, m1, m2, h⟩ := take_ok h (by omega) (many := 7) (by decide) (by decide)
      rw [bnd e5]
      obtain ⟨mk, ek, _, hk⟩ := aget (l := ([([] : Tx), ([] : Tx), (['\''] : Tx), (['`'] : Tx), (['^'] : Tx), (['~'] : Tx), ([':'] : Tx)] : List Tx)) m1 m2
      rw [bnd ek]
      have hmk : mk = [] ∨ ∃ k ∈ cMk, mk = [k] := by
        simp only [List.mem_cons, List.not_mem_nil, or_false] at hk
        rcases hk with rfl | rfl | rfl | rfl | rfl | rfl | rfl
        · exact .inl rfl
        · exact .inl rfl
        all_goals exact .inr ⟨_, by decide, rfl⟩
      have lmk : mk.length ≤ 1 := by rcases hmk with rfl | ⟨_, _, rfl⟩ <;> simp
      have hs := sg_mem k1 k2
      obtain ⟨c, ec, hc⟩ : ∃ c, l_drawn_x4 w [sg k] = some [c] ∧ (c ∈ cSm ∨ c ∈ cCa) := by
        unfold l_drawn_x4
        by_cases z : w = 0
        · rw [if_pos (decide_eq_true z)]
          exact ⟨up1c (sg k), (bnd (upS_L (show isL [sg k] = true from ltr_mk (m := []) (.inl hs) (.inl rfl)))).trans rfl, .inr (sm_up _ hs).1⟩
        · rw [if_neg (by rw [decide_eq_true_eq]; exact z)]
          exact ⟨_, rfl, .inl hs⟩
      rw [bnd ec, bnd (catS_ok (show ([c] : Tx).length + mk.length ≤ lim by rw [lim_e, List.length_singleton]; omega))]
      rw [bnd (apO_ok (show s2.length < lim by rw [lim_e]; omega))]
      refine ⟨_, rfl, h.mono (by rw [List.length_append, List.length_singleton]; omega), by rw [List.length_append, List.length_append, i2]; rfl, fun y hy => ?_⟩
      rcases List.mem_append.mp hy with hy | hy
      · exact i3 y hy
      · rw [List.mem_singleton.mp hy]; exact ltr_mk hc hmk
  rw [List.nil_append, rg_len] at i1 i2
  dsimp only at i1 i2 i3
  refine ⟨w, b2, ?_, ⟨i3, by omega, by omega⟩, i1.mono (by omega)⟩
  unfold l_drawn l_drawn_l2
  exact (bnd ((bnd e1).trans ((bnd (rng_ok (by omega) (by omega))).trans e))).trans rfl
theorem words_ok {n : Nat} {b : List Int} {many : Int} (h : Bx n b) (hn : n ≤ 800000) (h1 : 1 ≤ many) (h2 : many ≤ 19) : ∃ W b', law_c8 b many = some (W, b') ∧ WW W ∧ Bx (n + 600) b' := by
  obtain ⟨d, b1, e1, p1, p2, h⟩ := take_ok h (by omega) (many := many) (by omega) (by omega)
  obtain ⟨ys, b', e, j1, j2, j3⟩ := mpS_pre (f := fun x s => law_e9 s x) (l := rg d) (s := b1) (fun pre ys s => Bx (n + 1 + 30 * pre.length) s ∧ ys.length = pre.length ∧ ∀ w ∈ ys, WL w) (by rw [rg_len, lim_e]; omega) ⟨h.mono (by simp), rfl, fun _ hc => (nomatch hc)⟩ (fun p x q ys s hx I => by
    obtain ⟨hb, hy, hS⟩ := I
    have hp := (rg_at hx).2
    obtain ⟨w, b2, e2, hw, h⟩ := drawn_ok hb (by omega)
    refine ⟨w, b2, (bnd e2).trans rfl, h.mono (by rw [List.length_append, List.length_singleton]; omega), by rw [List.length_append, List.length_append, hy]; rfl, fun y hy => ?_⟩
    rcases List.mem_append.mp hy with hy | hy
    · exact hS y hy
    · rw [List.mem_singleton.mp hy]; exact hw)
  rw [rg_len] at j1 j2
  refine ⟨ys, b', ?_, ⟨j3, by omega⟩, j1.mono (by omega)⟩
  unfold law_c8
  exact (bnd e1).trans ((bnd (rng_ok (by omega) (by omega))).trans ((bnd e).trans rfl))
noncomputable def dd (m : Tx) : Fu := (wgO mds_MODES m).getD (Fu.mk "")
theorem dn : (dd c_full).n = "in_full" ∧ (dd c_initials).n = "as_initials" ∧ (dd c_first).n = "first_alone" ∧ (dd c_last).n = "last_alone" ∧ (dd c_bare).n = "as_bare" ∧ (dd c_high).n = "in_capitals" := by decide +kernel
theorem dsome : ∀ m ∈ six, (wgO mds_MODES m).isSome = true := by decide +kernel
theorem deeds_ok (script : Scr) : law_n2 script six = some (six.map dd) := by
  unfold law_n2 law_c3
  refine (bnd ((bnd (mpO_eq dd (by rw [lim_e]; decide) fun m hm => ?_)).trans rfl)).trans rfl
  unfold law_e4 mode_of dd
  obtain ⟨f, e⟩ := Option.isSome_iff_exists.mp (dsome m hm)
  rw [e]; rfl
section
variable {W : List (List Tx)} (h : WW W)
include h
theorem deed_ok {m : Tx} (hm : m ∈ six) (t : Bool) : ∃ R, law_f18 (dd m) (Lv.mk t (whl W)) = some R ∧ l_due m W = some R ∧ R.length ≤ 18 := by
  obtain ⟨d1, d2, d3, d4, d5, d6⟩ := dn
  have hl := whl_len h
  have hn := h.n
  simp only [six, List.mem_cons, List.not_mem_nil, or_false] at hm
  rcases hm with rfl | rfl | rfl | rfl | rfl | rfl
  · refine ⟨whl W, ?_, ?_, hl⟩
    · unfold law_f18; rw [if_pos d1]; rfl
    · unfold l_due
      rw [if_neg (by decide +kernel), if_neg (by decide +kernel), if_neg (by decide +kernel), bnd (whl_d h), if_neg (by decide +kernel), if_neg (by decide +kernel)]; rfl
  · refine ⟨W.map ini, ?_, ?_, by rw [List.length_map]; exact hn⟩
    · unfold law_f18; rw [d2, if_neg (by decide +kernel), if_pos rfl]; exact ini_p h t
    · unfold l_due
      rw [if_pos (by decide +kernel), bnd (ini_d h)]; rfl
  · refine ⟨(whl W).take 1, ?_, ?_, by rw [List.length_take]; omega⟩
    · unfold law_f18; rw [d3, if_neg (by decide +kernel), if_neg (by decide +kernel), if_pos rfl]; exact fst_p h t
    · unfold l_due
      rw [if_neg (by decide +kernel), if_neg (by decide +kernel), if_neg (by decide +kernel), bnd (whl_d h), if_pos (by decide +kernel), bnd (fst_d hl)]; rfl
  · refine ⟨(whl W).drop ((whl W).length - 1), ?_, ?_, by rw [List.length_drop]; omega⟩
    · unfold law_f18; rw [d4, if_neg (by decide +kernel), if_neg (by decide +kernel), if_neg (by decide +kernel), if_pos rfl]; exact lst_p h t
    · unfold l_due
      rw [if_neg (by decide +kernel), if_neg (by decide +kernel), if_neg (by decide +kernel), bnd (whl_d h), if_neg (by decide +kernel), if_pos (by decide +kernel), bnd (lst_d hl)]; rfl
  · refine ⟨W.map bar, ?_, ?_, by rw [List.length_map]; exact hn⟩
    · unfold law_f18; rw [d5, if_neg (by decide +kernel), if_neg (by decide +kernel), if_neg (by decide +kernel), if_neg (by decide +kernel), if_pos rfl]; exact bar_p h t
    · unfold l_due
      rw [if_neg (by decide +kernel), if_pos (by decide +kernel), bnd (bar_d h)]; rfl
  · refine ⟨W.map caps, ?_, ?_, by rw [List.length_map]; exact hn⟩
    · unfold law_f18; rw [d6, if_neg (by decide +kernel), if_neg (by decide +kernel), if_neg (by decide +kernel), if_neg (by decide +kernel), if_neg (by decide +kernel), if_pos rfl]; exact cap_p h t
    · unfold l_due
      rw [if_neg (by decide +kernel), if_neg (by decide +kernel), if_pos (by decide +kernel), bnd (cap_d h)]; rfl
theorem b16_ok {m : Tx} (hm : m ∈ six) (modes : List Tx) (deeds : List Fu) (turn : Int) : law_b16 modes deeds W (whl W) turn (m, dd m) = some (.go ()) := by
  have s17 : ∃ R, law_s17 (whl W) turn (dd m) (whl W) = some R ∧ l_due m W = some R ∧ R.length ≤ 18 := by
    unfold law_s17
    by_cases z : turn = 0
    · rw [if_pos (decide_eq_true z)]
      obtain ⟨R, a, b, c⟩ := deed_ok h hm false
      exact ⟨R, (bnd a).trans rfl, b, c⟩
    · rw [if_neg (by rw [decide_eq_true_eq]; exact z)]
      obtain ⟨R, a, b, c⟩ := deed_ok h hm true
      exact ⟨R, (bnd a).trans rfl, b, c⟩
  obtain ⟨R, e1, e2, hR⟩ := s17
  unfold law_b16
  refine (bnd e1).trans ?_
  refine (bnd (a := false) ?_).trans ?_
  · unfold law_x19
    refine (bnd e2).trans ?_
    rw [decide_eq_true rfl, if_neg (by decide), decide_eq_true rfl]; rfl
  · rw [if_neg (by decide), bnd (apO_ok (show R.length < lim by rw [lim_e]; omega))]; rfl
theorem l15_ok : law_l15 six (six.map dd) W (whl W) = some (.inl ()) := by
  unfold law_l15
  refine (bnd (rngO_ok (by decide) (by decide))).trans ?_
  obtain ⟨s', e, _⟩ := forX_go (f := fun x (s : Unit) => law_b15 six (six.map dd) W (whl W) x) (l := (List.range (2 : Int).toNat).map fun i : Nat => (i : Int)) (s := ()) (fun _ => True) trivial (fun x hx s _ => by
    refine ⟨(), ?_, trivial⟩
    obtain ⟨s2, e2, _⟩ := forX_go (f := fun y (s : Unit) => law_b16 six (six.map dd) W (whl W) x y) (l := six.zip (six.map dd)) (s := ()) (fun _ => True) trivial (fun y hy s _ => by
      have hz : six.zip (six.map dd) = six.map fun m => (m, dd m) := rfl
      rw [hz] at hy
      obtain ⟨m, hm, rfl⟩ := List.mem_map.mp hy
      exact ⟨(), b16_ok h hm _ _ _, trivial⟩)
    unfold law_b15 law_l16
    exact (bnd e2).trans rfl)
  exact e
end
theorem b6_ok (script : Scr) (x : Int) (hx : 0 ≤ x) : law_b6 script six (six.map dd) x = some (.go ()) := by
  unfold law_b6
  obtain ⟨c, b, e1, e2, h⟩ := box_ok script x hx
  rw [bnd e1, bnd e2]
  obtain ⟨d, b1, e3, d1, d2, h⟩ := take_ok h (by omega) (many := 2) (by decide) (by decide)
  rw [bnd e3]
  obtain ⟨m, em, _, hm⟩ := aget (l := [(4 : Int), (19 : Int)]) d1 d2
  rw [bnd em]
  simp only [List.mem_cons, List.not_mem_nil, or_false] at hm
  obtain ⟨W, b2, e4, hW, h⟩ := words_ok h (by omega) (many := m) (by omega) (by omega)
  rw [bnd e4]
  rw [bnd (show law_n11 script six (six.map dd) b2 W = some (whl W) from (bnd (whl_c hW)).trans rfl)]
  refine (bnd (l15_ok hW)).trans ?_
  dsimp only
  obtain ⟨k, b3, e5, k1, k2, h⟩ := take_ok h (by omega) (many := 6) (by decide) (by decide)
  rw [bnd e5]
  obtain ⟨md, ed, _, hd⟩ := aget (l := six) k1 (show k < ((6 : Nat) : Int) from k2)
  rw [bnd ed]
  obtain ⟨y, b4, e6, hy, h⟩ := bad_ok h (by omega) hd
  rw [bnd e6]
  obtain ⟨y', e7⟩ := refused_ok hy
  rw [bnd e7]; rfl
theorem law_ok (script : Scr) (hl : script.l.length ≤ 63) : law script = some true := by
  unfold law
  refine (bnd (deeds_ok script)).trans ?_
  obtain ⟨s', e, _⟩ := forX_go (f := fun x (s : Unit) => law_b6 script six (six.map dd) x) (l := rg (max 2 (min 6 (script.l.length : Int)))) (s := ()) (fun _ => True) trivial (fun x hx s _ => by
    obtain ⟨i, _, rfl⟩ := List.mem_map.mp hx
    exact ⟨(), b6_ok script _ (by omega), trivial⟩)
  have e' : law_l6 script six (six.map dd) = some (.inl ()) := by
    unfold law_l6
    exact (bnd (rng_ok (by omega) (by omega))).trans e
  exact (bnd e').trans rfl
theorem law_true (ns : List Int) (hl : ns.length <= 63) : ∃ os, m_law [.sq ns] = .ok (.bl true) os := ⟨_, t_law ⟨ns⟩ (law_ok ⟨ns⟩ hl)⟩
end En.Z
namespace En.Z
open PySem PySem.Spec PyProof.Rows L2 Gk
noncomputable def topS (i : Nat) : Stmt := PySem.Challenge.pw_manycustoms_k40_modes_of_words.main.body.getD i (.Pass ⟨0, 0, 0, 0⟩)
structure Adr where
  (zz CustomsError Unknown NoWord NoWord_i NoMode NoMode_i : Addr)
  (pp : PySem.Params)
structure Txt (K : PySem.W.Frag) (mg : Str → Option Value) (A : Adr) : Prop where
  r_letters_in : RawF K mg "letters_in" (topS 10)
  r_is_word : RawF K mg "is_word" (topS 11)
  r_letters_of : RawF K mg "letters_of" (topS 12)
  r_bare : RawF K mg "bare" (topS 13)
  r_in_full : RawF K mg "in_full" (topS 15)
  r_as_initials : RawF K mg "as_initials" (topS 16)
  r_first_alone : RawF K mg "first_alone" (topS 17)
  r_last_alone : RawF K mg "last_alone" (topS 18)
  r_as_bare : RawF K mg "as_bare" (topS 19)
  r_in_capitals : RawF K mg "in_capitals" (topS 20)
  r_mode_of : RawF K mg "mode_of" (topS 22)
  r_law_cell : RawF K mg "_law_cell" (topS 24)
  r_law_box : RawF K mg "_law_box" (topS 25)
  r_law_take : RawF K mg "_law_take" (topS 26)
  r_law_drawn : RawF K mg "_law_drawn" (topS 27)
  r_law_due : RawF K mg "_law_due" (topS 28)
  r_law_refused : RawF K mg "_law_refused" (topS 29)
  r_law_bad : RawF K mg "_law_bad" (topS 30)
  r_law : RawF K mg "law" (topS 31)
  c_SMALL : ∃ t, mg "SMALL" = some (.str "abcdefghijklmnopqrstuvwxyz" t)
  c_CAPITALS : ∃ t, mg "CAPITALS" = some (.str "ABCDEFGHIJKLMNOPQRSTUVWXYZ" t)
  c_MARKS : ∃ t, mg "MARKS" = some (.str "'`^~:" t)
  c_MOST_LETTERS : ∃ t, mg "MOST_LETTERS" = some (.int 8 t)
  d_MODES : ∀ w : World, w.params = A.pp → En.DictM K w mg "MODES" (En.tbn En.Z.mds_MODES)
  b_KeyError : mg "KeyError" = none
  b_isinstance : mg "isinstance" = none
  b_len : mg "len" = none
  b_list : mg "list" = none
  b_max : mg "max" = none
  b_min : mg "min" = none
  b_range : mg "range" = none
  b_repr : mg "repr" = none
  b_str : mg "str" = none
  b_tuple : mg "tuple" = none
  b_zip : mg "zip" = none
  g_CustomsError : mg "CustomsError" = some (.ref A.CustomsError)
  g_Unknown : mg "Unknown" = some (.ref A.Unknown)
  g_NoWord : mg "NoWord" = some (.ref A.NoWord)
  g_NoMode : mg "NoMode" = some (.ref A.NoMode)
  x_NoWord : NoC K mg A.NoWord A.CustomsError A.NoWord_i "ValueError.__new__" "ValueError.__init__" "" "CustomsError" "NoWord.__init__" [.type "ValueError", .type "Exception", .type "BaseException", .type "object"]
  x_NoMode : NoC K mg A.NoMode A.Unknown A.NoMode_i "LookupError.__new__" "KeyError.__init__" "" "Unknown" "NoMode.__init__" [.type "KeyError", .type "LookupError", .type "Exception", .type "BaseException", .type "object"]
  e_NoWord_CustomsError : PySem.W.exmOne K (.ref A.NoWord) (.ref A.CustomsError) = some true
  e_NoWord_Unknown : PySem.W.exmOne K (.ref A.NoWord) (.ref A.Unknown) = some false
  e_NoWord_NoMode : PySem.W.exmOne K (.ref A.NoWord) (.ref A.NoMode) = some false
  e_NoMode_CustomsError : PySem.W.exmOne K (.ref A.NoMode) (.ref A.CustomsError) = some false
  e_NoMode_Unknown : PySem.W.exmOne K (.ref A.NoMode) (.ref A.Unknown) = some true
  e_NoMode_NoMode : PySem.W.exmOne K (.ref A.NoMode) (.ref A.NoMode) = some true
theorem hx_CustomsError {K : PySem.W.Frag} {mg : Str → Option Value} {A0 : Adr} (T : Txt K mg A0) (C : Str) (b : Bool) (h : subX C "CustomsError" = some b) : PySem.W.exmOne K (.ref (cnOf mg C)) (.ref A0.CustomsError) = some b := by
  unfold subX at h
  by_cases h_NoWord : C = "NoWord"
  · subst h_NoWord
    have z : subX "NoWord" "CustomsError" = some b := by unfold subX; exact h
    rw [sx_NoWord_CustomsError] at z; cases z
    rw [cnOf_eq T.g_NoWord]; exact T.e_NoWord_CustomsError
  rw [if_neg h_NoWord] at h
  by_cases h_NoMode : C = "NoMode"
  · subst h_NoMode
    have z : subX "NoMode" "CustomsError" = some b := by unfold subX; exact h
    rw [sx_NoMode_CustomsError] at z; cases z
    rw [cnOf_eq T.g_NoMode]; exact T.e_NoMode_CustomsError
  rw [if_neg h_NoMode] at h
  cases h
theorem hx_Unknown {K : PySem.W.Frag} {mg : Str → Option Value} {A0 : Adr} (T : Txt K mg A0) (C : Str) (b : Bool) (h : subX C "Unknown" = some b) : PySem.W.exmOne K (.ref (cnOf mg C)) (.ref A0.Unknown) = some b := by
  unfold subX at h
  by_cases h_NoWord : C = "NoWord"
  · subst h_NoWord
    have z : subX "NoWord" "Unknown" = some b := by unfold subX; exact h
    rw [sx_NoWord_Unknown] at z; cases z
    rw [cnOf_eq T.g_NoWord]; exact T.e_NoWord_Unknown
  rw [if_neg h_NoWord] at h
  by_cases h_NoMode : C = "NoMode"
  · subst h_NoMode
    have z : subX "NoMode" "Unknown" = some b := by unfold subX; exact h
    rw [sx_NoMode_Unknown] at z; cases z
    rw [cnOf_eq T.g_NoMode]; exact T.e_NoMode_Unknown
  rw [if_neg h_NoMode] at h
  cases h
theorem hx_NoMode {K : PySem.W.Frag} {mg : Str → Option Value} {A0 : Adr} (T : Txt K mg A0) (C : Str) (b : Bool) (h : subX C "NoMode" = some b) : PySem.W.exmOne K (.ref (cnOf mg C)) (.ref A0.NoMode) = some b := by
  unfold subX at h
  by_cases h_NoWord : C = "NoWord"
  · subst h_NoWord
    have z : subX "NoWord" "NoMode" = some b := by unfold subX; exact h
    rw [sx_NoWord_NoMode] at z; cases z
    rw [cnOf_eq T.g_NoWord]; exact T.e_NoWord_NoMode
  rw [if_neg h_NoWord] at h
  by_cases h_NoMode : C = "NoMode"
  · subst h_NoMode
    have z : subX "NoMode" "NoMode" = some b := by unfold subX; exact h
    rw [sx_NoMode_NoMode] at z; cases z
    rw [cnOf_eq T.g_NoMode]; exact T.e_NoMode_NoMode
  rw [if_neg h_NoMode] at h
  cases h
noncomputable abbrev st_mode_of : Stmt := topS 22
theorem sc_mode_of : FnScope ["mode"] ["mode"] (defScope st_mode_of) := ⟨rfl, rfl, rfl, by decide +kernel, rfl, by decide +kernel, by decide +kernel⟩
theorem ok_mode_of {P : Program} {w : World} {K : PySem.W.Frag} {mg : Str → Option Value} {base : Heap} {A0 : Adr} (T : Txt K mg A0)  (hpp : w.params = A0.pp) : Cal P w K mg base "mode_of" 1 ["mode"] [] (spE (gk K mg) [false] m_mode_of) := by
  refine Cal.mk' T.r_mode_of sc_mode_of (fun vs H Q E h => spE_len h) (fun _ _ _ _ _ _ us hl => match us, hl with | [_], _ => rfl) (fun f cd A out sh H vs Q E hr h => ?_)
  have hu64 := hr.r.units
  have hu1 := hu_of hr.r
  have hu128 := hu128_of hr.r
  have hgd := hr.g
  refine ⟨rdS (gk K mg) (WE E) (ioIx 0 [false]) m_mode_of_m, ?_, fn_run h⟩
  exact (ds_cons (ds_if (dt_not (dt_tru rfl (de_cb (cr_k gIsi K rfl call_gIsi) (does_2 d_isi) (by rfl) T.b_isinstance (by decide +kernel) (da_cons (do_sl (pv 0)) (da_cons (do_val (de_ty (pe_ty (T := "str") T.b_str (by decide +kernel)))) da_nil))))) (ds_one (ds_raise (cnOf_eq T.g_NoMode) rfl tkG tlKE T.x_NoMode T.g_NoMode (hr.mono (Nat.zero_le _)) (by decide +kernel) (by decide +kernel) (by decide +kernel) (de_cp (pv 0)))) ds_nil)
      (ds_one (ds_tryN (fun pn1 xe1 po1 => (ds_one (ds_ret (de_wg (T.d_MODES w hpp).c rfl (do_sl (pv 0)) (fun _ _ => rfl))))))))
noncomputable abbrev st_law_cell : Stmt := topS 24
theorem sc_law_cell : FnScope ["_law_script", "_law_k"] ["_law_script", "_law_k"] (defScope st_law_cell) := ⟨rfl, rfl, rfl, by decide +kernel, rfl, by decide +kernel, by decide +kernel⟩
theorem ok_l_cell {P : Program} {w : World} {K : PySem.W.Frag} {mg : Str → Option Value} {base : Heap} {A0 : Adr} (T : Txt K mg A0)  : Cal P w K mg base "_law_cell" 1 ["_law_script", "_law_k"] [] (spE (gk K mg) [false, false] m_l_cell) := by
  refine Cal.mk' T.r_law_cell sc_law_cell (fun vs H Q E h => spE_len h) (fun _ _ _ _ _ _ us hl => match us, hl with | [_, _], _ => rfl) (fun f cd A out sh H vs Q E hr h => ?_)
  have hu64 := hr.r.units
  have hu1 := hu_of hr.r
  have hu128 := hu128_of hr.r
  have hgd := hr.g
  refine ⟨rdS (gk K mg) (WE E) (ioIx 0 [false, false]) m_l_cell_m, ?_, fn_run h⟩
  exact (ds_cons (ds_if (dt_cmp (op_k gLt K rfl op_gLt) d_lt (do_sl (pv 1)) (do_val (de_cb (cr_k gLen K rfl call_gLen) (does_1 d_len) (by rfl) T.b_len (by decide +kernel) (da_cons (do_sl (pv 0)) da_nil))) (nomark _)) (ds_one (ds_ret (de_ix (ix_k gIx K rfl (ix_g hu1)) d_ix (do_sl (pv 0)) (do_sl (pv 1)) (fun _ _ => rfl)))) ds_nil)
      (ds_one (ds_ret (de_op (op_k gAdd K rfl op_gAdd) d_add (do_val (de_op (op_k gMul K rfl op_gMul) d_mul (do_val (de_int pe_int)) (do_sl (pv 1)))) (do_val (de_int pe_int))))))
noncomputable abbrev st_law_box : Stmt := topS 25
theorem sc_law_box : FnScope ["_law_cell_here"] ["_law_cell_here"] (defScope st_law_box) := ⟨rfl, rfl, rfl, by decide +kernel, rfl, by decide +kernel, by decide +kernel⟩
theorem ok_l_box {P : Program} {w : World} {K : PySem.W.Frag} {mg : Str → Option Value} {base : Heap} {A0 : Adr} (T : Txt K mg A0)  : Cal P w K mg base "_law_box" 1 ["_law_cell_here"] [] (spE (gk K mg) [false] m_l_box) := by
  refine Cal.mk' T.r_law_box sc_law_box (fun vs H Q E h => spE_len h) (fun _ _ _ _ _ _ us hl => match us, hl with | [_], _ => rfl) (fun f cd A out sh H vs Q E hr h => ?_)
  have hu64 := hr.r.units
  have hu1 := hu_of hr.r
  have hu128 := hu128_of hr.r
  have hgd := hr.g
  refine ⟨rdS (gk K mg) (WE E) (ioIx 0 [false]) m_l_box_m, ?_, fn_run h⟩
  exact (ds_one (ds_ret (de_lst (da_cons (do_own (de_cb (call_gMax rfl) (does_2 d_max) (by rfl) T.b_max (by decide +kernel) (da_cons (do_val (de_int pe_int)) (da_cons (do_val (de_op op_gMinus d_sub (do_sl (pv 0)) (do_val (de_op op_gPow d_pow (do_val (de_int pe_int)) (do_val (de_int pe_int)))))) da_nil)))) (da_cons (do_own (de_op op_gMod d_mod (do_sl (pv 0)) (do_val (de_int pe_int)))) (da_cons (do_own (de_int pe_int)) da_nil))) rfl)))
noncomputable abbrev st_law_take : Stmt := topS 26
theorem sc_law_take : FnScope ["_law_box_here", "_law_many", "_law_number", "_law_digit"] ["_law_box_here", "_law_many"] (defScope st_law_take) := ⟨rfl, rfl, rfl, by decide +kernel, rfl, by decide +kernel, by decide +kernel⟩
theorem ok_l_take {P : Program} {w : World} {K : PySem.W.Frag} {mg : Str → Option Value} {base : Heap} {A0 : Adr} (T : Txt K mg A0)  : Cal P w K mg base "_law_take" 1 ["_law_box_here", "_law_many"] [] (spE (gk K mg) [true, false] m_l_take) := by
  refine Cal.mk' T.r_law_take sc_law_take (fun vs H Q E h => spE_len h) (fun _ _ _ _ _ _ us hl => match us, hl with | [_, _], _ => rfl) (fun f cd A out sh H vs Q E hr h => ?_)
  have hu64 := hr.r.units
  have hu1 := hu_of hr.r
  have hu128 := hu128_of hr.r
  have hgd := hr.g
  refine ⟨rdS (gk K mg) (WE E) (ioIx 0 [true, false]) m_l_take_m, ?_, fn_run h⟩
  exact (ds_cons (ds_if (dt_cmp (op_k gGt K rfl op_gGt) d_gt (do_val (de_ix (ix_k gIx K rfl (ix_g hu1)) d_ix (do_sl (pv 0)) (do_val (de_int pe_int)) (fun _ _ => rfl))) (do_val (de_int pe_int)) (nomark _)) (ds_cons (ds_asg (ps_set (i := 3) sc_law_take.nd rfl (by first | exact Or.inl rfl | exact Or.inr rfl) (de_op op_gMod d_mod (do_val (de_ix (ix_k gIx K rfl (ix_g hu1)) d_ix (do_sl (pv 0)) (do_val (de_int pe_int)) (fun _ _ => rfl))) (do_sl (pv 1)))) (tg_name (by decide)))
      (ds_cons (ds_set3 (ps_asg (do_own (de_op op_gDiv d_div (do_val (de_ix (ix_k gIx K rfl (ix_g hu1)) d_ix (do_sl (pv 0)) (do_val (de_int pe_int)) (fun _ _ => rfl))) (do_sl (pv 1)))) (pg_sub (do_io (pv 0)) (do_val (de_int pe_int)) (set_g hu1))) rfl d_set)
      (ds_one (ds_ret (de_mv (pv 3)))))) ds_nil)
      (ds_cons (ds_set3 (ps_asg (do_own (de_op (op_k gAdd K rfl op_gAdd) d_add (do_val (de_ix (ix_k gIx K rfl (ix_g hu1)) d_ix (do_sl (pv 0)) (do_val (de_int pe_int)) (fun _ _ => rfl))) (do_val (de_int pe_int)))) (pg_sub (do_io (pv 0)) (do_val (de_int pe_int)) (set_g hu1))) rfl d_set)
      (ds_cons (ds_asg (ps_set (i := 2) sc_law_take.nd rfl (by first | exact Or.inl rfl | exact Or.inr rfl) (de_op op_gMod d_mod (do_val (de_op op_gPow d_pow (do_val (de_op (op_k gAdd K rfl op_gAdd) d_add (do_val (de_op (op_k gAdd K rfl op_gAdd) d_add (do_val (de_ix (ix_k gIx K rfl (ix_g hu1)) d_ix (do_sl (pv 0)) (do_val (de_int pe_int)) (fun _ _ => rfl))) (do_val (de_op (op_k gMul K rfl op_gMul) d_mul (do_val (de_int pe_int)) (do_val (de_ix (ix_k gIx K rfl (ix_g hu1)) d_ix (do_sl (pv 0)) (do_val (de_int pe_int)) (fun _ _ => rfl))))))) (do_val (de_int pe_int)))) (do_val (de_int pe_int)))) (do_val (de_int pe_int)))) (tg_name (by decide)))
      (ds_cons (ds_asg (ps_set (i := 2) sc_law_take.nd rfl (by first | exact Or.inl rfl | exact Or.inr rfl) (de_op op_gMod d_mod (do_val (de_op op_gPow d_pow (do_val (de_op (op_k gAdd K rfl op_gAdd) d_add (do_sl (pv 2)) (do_val (de_op (op_k gMul K rfl op_gMul) d_mul (do_val (de_int pe_int)) (do_val (de_ix (ix_k gIx K rfl (ix_g hu1)) d_ix (do_sl (pv 0)) (do_val (de_int pe_int)) (fun _ _ => rfl))))))) (do_val (de_int pe_int)))) (do_val (de_int pe_int)))) (tg_name (by decide)))
      (ds_one (ds_ret (de_op op_gMod d_mod (do_val (de_op op_gDiv d_div (do_sl (pv 2)) (do_val (de_int pe_int)))) (do_sl (pv 1)))))))))
noncomputable abbrev st_law_drawn : Stmt := topS 27
theorem sc_law_drawn : FnScope ["_law_box_here", "_law_small", "_law_found", "_law_k", "_law_way", "_law_sign", "_law_mark"] ["_law_box_here"] (defScope st_law_drawn) := ⟨rfl, rfl, rfl, by decide +kernel, rfl, by decide +kernel, by decide +kernel⟩
theorem ok_l_drawn {P : Program} {w : World} {K : PySem.W.Frag} {mg : Str → Option Value} {base : Heap} {A0 : Adr} (T : Txt K mg A0) (c_l_take : Cal P w K mg base "_law_take" 1 ["_law_box_here", "_law_many"] [] (spE (gk K mg) [true, false] m_l_take)) : Cal P w K mg base "_law_drawn" 2 ["_law_box_here"] [] (spE (gk K mg) [true] m_l_drawn) := by
  refine Cal.mk' T.r_law_drawn sc_law_drawn (fun vs H Q E h => spE_len h) (fun _ _ _ _ _ _ us hl => match us, hl with | [_], _ => rfl) (fun f cd A out sh H vs Q E hr h => ?_)
  have hu64 := hr.r.units
  have hu1 := hu_of hr.r
  have hu128 := hu128_of hr.r
  have hgd := hr.g
  refine ⟨rdS (gk K mg) (WE E) (ioIx 0 [true]) m_l_drawn_m, ?_, fn_run h⟩
  exact (ds_cons (ds_asg (ps_set (i := 1) sc_law_drawn.nd rfl (by first | exact Or.inl rfl | exact Or.inr rfl) (de_str pe_str (by decide +kernel))) (tg_name (by decide)))
      (ds_cons (ds_asg (ps_set (i := 2) sc_law_drawn.nd rfl (by first | exact Or.inl rfl | exact Or.inr rfl) (de_lst da_nil rfl)) (tg_name (by decide)))
      (ds_cons (ds_pre [3, 4, 5, 6] [] (ds_for poG rfl (di_rng1 (by rfl) T.b_range (da_cons (do_val (de_op (op_k gAdd K rfl op_gAdd) d_add (do_val (de_int pe_int)) (do_val (de_cal c_l_take (hr.mono (by decide)) tkG does_cal (da_cons (do_io (pv 0)) (da_cons (do_val (de_int pe_int)) da_nil)))))) da_nil) rfl) (pg_name (i := 3) sc_law_drawn.nd rfl (by first | exact Or.inl rfl | exact Or.inr rfl)) (tg_name (by decide))
      (dss_nrm [3, 4, 5, 6] [] [] [] [] [] (ds_cons (ds_asg (ps_set (i := 4) sc_law_drawn.nd rfl (by first | exact Or.inl rfl | exact Or.inr rfl) (de_cal c_l_take (hr.mono (by decide)) tkG does_cal (da_cons (do_io (pv 0)) (da_cons (do_val (de_int pe_int)) da_nil)))) (tg_name (by decide)))
      (ds_cons (ds_asg (ps_set (i := 5) sc_law_drawn.nd rfl (by first | exact Or.inl rfl | exact Or.inr rfl) (de_ix (ix_k gIx K rfl (ix_g hu1)) d_ix (do_sl (pv 1)) (do_val (de_cal c_l_take (hr.mono (by decide)) tkG does_cal (da_cons (do_io (pv 0)) (da_cons (do_val (de_int pe_int)) da_nil)))) (fun _ _ => rfl))) (tg_name (by decide)))
      (ds_cons (ds_asg (ps_set (i := 6) sc_law_drawn.nd rfl (by first | exact Or.inl rfl | exact Or.inr rfl) (de_ix (ix_k gIx K rfl (ix_g hu1)) d_ix (do_val (de_lst (da_cons (do_own (de_str pe_str (by decide +kernel))) (da_cons (do_own (de_str pe_str (by decide +kernel))) (da_cons (do_own (de_str pe_str (by decide +kernel))) (da_cons (do_own (de_str pe_str (by decide +kernel))) (da_cons (do_own (de_str pe_str (by decide +kernel))) (da_cons (do_own (de_str pe_str (by decide +kernel))) (da_cons (do_own (de_str pe_str (by decide +kernel))) da_nil))))))) rfl)) (do_val (de_cal c_l_take (hr.mono (by decide)) tkG does_cal (da_cons (do_io (pv 0)) (da_cons (do_val (de_int pe_int)) da_nil)))) (fun _ _ => rfl))) (tg_name (by decide)))
      (ds_one (ds_expr (de_bm rfl PySem.F.plainAttrs_list PySem.F.slot_list_append PySem.F.type_list_append mt_append chkL_ok d_app (do_io (pv 2)) (da_cons (do_own (de_op (op_k gAdd K rfl op_gAdd) d_add (do_val (de_if (dt_cmp (op_k gEq K rfl (op_gEq hu64)) d_eq (do_sl (pv 4)) (do_val (de_int pe_int)) (nomark _)) (de_m0 (pe_m0 PySem.F.slot_str_upper PySem.F.type_str_upper mt_upper (do_sl (pv 5))) (doesm_0 d_upper)) (de_cp (pv 5)))) (do_sl (pv 6)))) da_nil))))))))))
      (ds_one (ds_ret (de_mv (pv 2)))))))
noncomputable abbrev st_in_full : Stmt := topS 15
theorem sc_in_full : FnScope ["words"] ["words"] (defScope st_in_full) := ⟨rfl, rfl, rfl, by decide +kernel, rfl, by decide +kernel, by decide +kernel⟩
theorem ok_in_full {P : Program} {w : World} {K : PySem.W.Frag} {mg : Str → Option Value} {base : Heap} {A0 : Adr} (T : Txt K mg A0)  : Cal P w K mg base "in_full" 1 ["words"] [] (spE (gk K mg) [false] m_in_full) := by
  refine Cal.mk' T.r_in_full sc_in_full (fun vs H Q E h => spE_len h) (fun _ _ _ _ _ _ us hl => match us, hl with | [_], _ => rfl) (fun f cd A out sh H vs Q E hr h => ?_)
  have hu64 := hr.r.units
  have hu1 := hu_of hr.r
  have hu128 := hu128_of hr.r
  have hgd := hr.g
  refine ⟨rdS (gk K mg) (WE E) (ioIx 0 [false]) m_in_full_m, ?_, fn_run h⟩
  exact (ds_one (ds_ret (de_ct (cr_k gList K rfl (call_gList rfl)) (does_1 d_list) (by rfl) T.b_list (by decide +kernel) (da_cons (do_sl (pv 0)) da_nil))))
noncomputable abbrev st_letters_in : Stmt := topS 10
theorem sc_letters_in : FnScope ["text", "found", "sign"] ["text"] (defScope st_letters_in) := ⟨rfl, rfl, rfl, by decide +kernel, rfl, by decide +kernel, by decide +kernel⟩
theorem ok_letters_in {P : Program} {w : World} {K : PySem.W.Frag} {mg : Str → Option Value} {base : Heap} {A0 : Adr} (T : Txt K mg A0)  : Cal P w K mg base "letters_in" 1 ["text"] [] (spE (gk K mg) [false] m_letters_in) := by
  refine Cal.mk' T.r_letters_in sc_letters_in (fun vs H Q E h => spE_len h) (fun _ _ _ _ _ _ us hl => match us, hl with | [_], _ => rfl) (fun f cd A out sh H vs Q E hr h => ?_)
  have hu64 := hr.r.units
  have hu1 := hu_of hr.r
  have hu128 := hu128_of hr.r
  have hgd := hr.g
  refine ⟨rdS (gk K mg) (WE E) (ioIx 0 [false]) m_letters_in_m, ?_, fn_run h⟩
  exact (ds_cons (ds_asg (ps_set (i := 1) sc_letters_in.nd rfl (by first | exact Or.inl rfl | exact Or.inr rfl) (de_lst da_nil rfl)) (tg_name (by decide)))
      (ds_cons (ds_pre [2] [] (ds_for poG rfl (di_val (de_cp (pv 0)) rfl) (pg_name (i := 2) sc_letters_in.nd rfl (by first | exact Or.inl rfl | exact Or.inr rfl)) (tg_name (by decide))
      (dss_nrm [2] [] [2] [] [0, 1, 2] [] (ds_one (ds_if (PW.pt (dt_or (dt_cmp (op_k gIn K rfl (op_gIn hu1)) d_in (do_sl (pv 2)) (do_val (de_str (pe_gs T.c_SMALL) (by decide +kernel))) (by rfl)) (dt_or1 (dt_cmp (op_k gIn K rfl (op_gIn hu1)) d_in (do_sl (pv 2)) (do_val (de_str (pe_gs T.c_CAPITALS) (by decide +kernel))) (by rfl))))) (ds_one (ds_expr (de_bm rfl PySem.F.plainAttrs_list PySem.F.slot_list_append PySem.F.type_list_append mt_append chkL_ok d_app (do_io (pv 1)) (da_cons (do_own (de_mv (pv 2))) da_nil)))) (ds_cons (ds_if (PW.pt (dt_and (dt_cmp (op_k gIn K rfl (op_gIn hu1)) d_in (do_sl (pv 2)) (do_val (de_str (pe_gs T.c_MARKS) (by decide +kernel))) (by rfl)) (dt_and (dt_cmp (op_k gNe K rfl (op_gNe hu64)) d_ne (do_sl (pv 1)) (do_val (de_lst da_nil rfl)) (nomark _)) (dt_and1 (dt_cmp (op_k gEq K rfl (op_gEq hu64)) d_eq (do_val (de_cb (cr_k gLen K rfl call_gLen) (does_1 d_len) (by rfl) T.b_len (by decide +kernel) (da_cons (do_val (de_ix (ix_k gIx K rfl (ix_g hu1)) d_ix (do_sl (pv 1)) (do_val (de_un un_gNeg d_neg (do_val (de_int pe_int)))) (fun _ _ => rfl))) da_nil))) (do_val (de_int pe_int)) (nomark _)))))) (ds_one (ds_set3 (ps_asg (do_own (de_op (op_k gAdd K rfl op_gAdd) d_add (do_val (de_ix (ix_k gIx K rfl (ix_g hu1)) d_ix (do_sl (pv 1)) (do_val (de_un un_gNeg d_neg (do_val (de_int pe_int)))) (fun _ _ => rfl))) (do_sl (pv 2)))) (pg_sub (do_io (pv 1)) (do_val (de_un un_gNeg d_neg (do_val (de_int pe_int)))) (set_g hu1))) rfl d_set)) (ds_one (ds_ret (de_non pe_non))))
      ds_nil))))))
      (ds_one (ds_ret (de_mv (pv 1))))))
noncomputable abbrev st_is_word : Stmt := topS 11
theorem sc_is_word : FnScope ["thing", "letters"] ["thing"] (defScope st_is_word) := ⟨rfl, rfl, rfl, by decide +kernel, rfl, by decide +kernel, by decide +kernel⟩
theorem ok_is_word {P : Program} {w : World} {K : PySem.W.Frag} {mg : Str → Option Value} {base : Heap} {A0 : Adr} (T : Txt K mg A0) (c_letters_in : Cal P w K mg base "letters_in" 1 ["text"] [] (spE (gk K mg) [false] m_letters_in)) : Cal P w K mg base "is_word" 2 ["thing"] [] (spE (gk K mg) [false] m_is_word) := by
  refine Cal.mk' T.r_is_word sc_is_word (fun vs H Q E h => spE_len h) (fun _ _ _ _ _ _ us hl => match us, hl with | [_], _ => rfl) (fun f cd A out sh H vs Q E hr h => ?_)
  have hu64 := hr.r.units
  have hu1 := hu_of hr.r
  have hu128 := hu128_of hr.r
  have hgd := hr.g
  refine ⟨rdS (gk K mg) (WE E) (ioIx 0 [false]) m_is_word_m, ?_, fn_run h⟩
  exact (ds_cons (ds_if (PW.pt (dt_or (dt_not (dt_tru rfl (de_cb (cr_k gIsi K rfl call_gIsi) (does_2 d_isi) (by rfl) T.b_isinstance (by decide +kernel) (da_cons (do_sl (pv 0)) (da_cons (do_val (de_ty (pe_ty (T := "str") T.b_str (by decide +kernel)))) da_nil))))) (dt_or1 (dt_not (dt_chain (op_k gLe K rfl op_gLe) (op_k gLe K rfl op_gLe) d_le d_le (do_val (de_int pe_int)) (do_val (de_cb (cr_k gLen K rfl call_gLen) (does_1 d_len) (by rfl) T.b_len (by decide +kernel) (da_cons (do_sl (pv 0)) da_nil))) (do_val (de_op (op_k gMul K rfl op_gMul) d_mul (do_val (de_int pe_int)) (do_val (de_int (pe_gi T.c_MOST_LETTERS)))))))))) (ds_one (ds_ret (de_bl pe_bl))) ds_nil)
      (ds_cons (ds_asg (ps_set (i := 1) sc_is_word.nd rfl (by first | exact Or.inl rfl | exact Or.inr rfl) (de_cal c_letters_in (hr.mono (by decide)) tkG does_cal (da_cons (do_sl (pv 0)) da_nil))) (tg_name (by decide)))
      (ds_one (ds_ret (de_and (de_cmp op_gIsNot d_isn (do_sl (pv 1)) (do_val (de_non pe_non)) (nomark _)) (pe_one (de_cmp (op_k gLe K rfl op_gLe) d_le (do_val (de_cb (cr_k gLen K rfl call_gLen) (does_1 d_len) (by rfl) T.b_len (by decide +kernel) (da_cons (do_sl (pv 1)) da_nil))) (do_val (de_int (pe_gi T.c_MOST_LETTERS))) (nomark _))))))))
noncomputable abbrev st_letters_of : Stmt := topS 12
theorem sc_letters_of : FnScope ["word", "letters"] ["word"] (defScope st_letters_of) := ⟨rfl, rfl, rfl, by decide +kernel, rfl, by decide +kernel, by decide +kernel⟩
theorem ok_letters_of {P : Program} {w : World} {K : PySem.W.Frag} {mg : Str → Option Value} {base : Heap} {A0 : Adr} (T : Txt K mg A0) (c_is_word : Cal P w K mg base "is_word" 2 ["thing"] [] (spE (gk K mg) [false] m_is_word)) (c_letters_in : Cal P w K mg base "letters_in" 1 ["text"] [] (spE (gk K mg) [false] m_letters_in)) : Cal P w K mg base "letters_of" 3 ["word"] [] (spE (gk K mg) [false] m_letters_of) := by
  refine Cal.mk' T.r_letters_of sc_letters_of (fun vs H Q E h => spE_len h) (fun _ _ _ _ _ _ us hl => match us, hl with | [_], _ => rfl) (fun f cd A out sh H vs Q E hr h => ?_)
  have hu64 := hr.r.units
  have hu1 := hu_of hr.r
  have hu128 := hu128_of hr.r
  have hgd := hr.g
  refine ⟨rdS (gk K mg) (WE E) (ioIx 0 [false]) m_letters_of_m, ?_, fn_run h⟩
  exact (ds_cons (ds_asg (ps_set (i := 1) sc_letters_of.nd rfl (by first | exact Or.inl rfl | exact Or.inr rfl) (de_if (dt_tru rfl (de_cal c_is_word (hr.mono (by decide)) tkG does_cal (da_cons (do_sl (pv 0)) da_nil))) (de_cal c_letters_in (hr.mono (by decide)) tkG does_cal (da_cons (do_sl (pv 0)) da_nil)) (de_non pe_non))) (tg_name (by decide)))
      (ds_cons (ds_if (dt_cmp op_gIs d_is (do_sl (pv 1)) (do_val (de_non pe_non)) (nomark _)) (ds_one (ds_raise (cnOf_eq T.g_NoWord) rfl tkG tlVE T.x_NoWord T.g_NoWord (hr.mono (Nat.zero_le _)) (by decide +kernel) (by decide +kernel) (by decide +kernel) (de_cp (pv 0)))) ds_nil)
      (ds_one (ds_ret (de_mv (pv 1))))))
noncomputable abbrev st_as_initials : Stmt := topS 16
theorem sc_as_initials : FnScope ["words", "word"] ["words"] (defScope st_as_initials) := ⟨rfl, rfl, rfl, by decide +kernel, rfl, by decide +kernel, by decide +kernel⟩
theorem ok_as_initials {P : Program} {w : World} {K : PySem.W.Frag} {mg : Str → Option Value} {base : Heap} {A0 : Adr} (T : Txt K mg A0) (c_letters_of : Cal P w K mg base "letters_of" 3 ["word"] [] (spE (gk K mg) [false] m_letters_of)) : Cal P w K mg base "as_initials" 4 ["words"] [] (spE (gk K mg) [false] m_as_initials) := by
  refine Cal.mk' T.r_as_initials sc_as_initials (fun vs H Q E h => spE_len h) (fun _ _ _ _ _ _ us hl => match us, hl with | [_], _ => rfl) (fun f cd A out sh H vs Q E hr h => ?_)
  have hu64 := hr.r.units
  have hu1 := hu_of hr.r
  have hu128 := hu128_of hr.r
  have hgd := hr.g
  refine ⟨rdS (gk K mg) (WE E) (ioIx 0 [false]) m_as_initials_m, ?_, fn_run h⟩
  exact (ds_one (ds_ret (de_lc (G := gk K mg) (own := [("word", 1)]) (J := [0]) (g := (gName 1)) (by rfl) sc_as_initials.nd (di_val (de_mv (pv 0)) rfl) (blkOk_by (own := [("word", 1)]) (by rfl)) (fun _ _ _ _ _ => (pg_name (i := 1) sc_as_initials.nd rfl (by first | exact Or.inl rfl | exact Or.inr rfl))) (fun _ _ _ _ _ => dts_nil) (fun _ _ _ _ _ => (de_op (op_k gAdd K rfl op_gAdd) d_add (do_val (de_ix (ix_k gIx K rfl (ix_g hu1)) d_ix (do_val (de_cal c_letters_of (hr.mono (by decide)) takes0 does_cal (da_cons (do_sl (pv 1)) da_nil))) (do_val (de_int pe_int)) (fun _ _ => rfl))) (do_val (de_str pe_str (by decide +kernel))))) (tg_name (by decide)) rfl (cov_ok (n := 2) (by decide) rfl))))
noncomputable abbrev st_first_alone : Stmt := topS 17
theorem sc_first_alone : FnScope ["words"] ["words"] (defScope st_first_alone) := ⟨rfl, rfl, rfl, by decide +kernel, rfl, by decide +kernel, by decide +kernel⟩
theorem ok_first_alone {P : Program} {w : World} {K : PySem.W.Frag} {mg : Str → Option Value} {base : Heap} {A0 : Adr} (T : Txt K mg A0)  : Cal P w K mg base "first_alone" 1 ["words"] [] (spE (gk K mg) [false] m_first_alone) := by
  refine Cal.mk' T.r_first_alone sc_first_alone (fun vs H Q E h => spE_len h) (fun _ _ _ _ _ _ us hl => match us, hl with | [_], _ => rfl) (fun f cd A out sh H vs Q E hr h => ?_)
  have hu64 := hr.r.units
  have hu1 := hu_of hr.r
  have hu128 := hu128_of hr.r
  have hgd := hr.g
  refine ⟨rdS (gk K mg) (WE E) (ioIx 0 [false]) m_first_alone_m, ?_, fn_run h⟩
  exact (ds_one (ds_ret (de_ct (cr_k gList K rfl (call_gList rfl)) (does_1 d_list) (by rfl) T.b_list (by decide +kernel) (da_cons (do_val (de_sl (sl_k gSl K rfl sl_g) d_sl (do_sl (pv 0)) dpo_none (dpo_some (de_int pe_int)))) da_nil))))
noncomputable abbrev st_last_alone : Stmt := topS 18
theorem sc_last_alone : FnScope ["words"] ["words"] (defScope st_last_alone) := ⟨rfl, rfl, rfl, by decide +kernel, rfl, by decide +kernel, by decide +kernel⟩
theorem ok_last_alone {P : Program} {w : World} {K : PySem.W.Frag} {mg : Str → Option Value} {base : Heap} {A0 : Adr} (T : Txt K mg A0)  : Cal P w K mg base "last_alone" 1 ["words"] [] (spE (gk K mg) [false] m_last_alone) := by
  refine Cal.mk' T.r_last_alone sc_last_alone (fun vs H Q E h => spE_len h) (fun _ _ _ _ _ _ us hl => match us, hl with | [_], _ => rfl) (fun f cd A out sh H vs Q E hr h => ?_)
  have hu64 := hr.r.units
  have hu1 := hu_of hr.r
  have hu128 := hu128_of hr.r
  have hgd := hr.g
  refine ⟨rdS (gk K mg) (WE E) (ioIx 0 [false]) m_last_alone_m, ?_, fn_run h⟩
  exact (ds_one (ds_ret (de_ct (cr_k gList K rfl (call_gList rfl)) (does_1 d_list) (by rfl) T.b_list (by decide +kernel) (da_cons (do_val (de_sl (sl_k gSl K rfl sl_g) d_sl (do_sl (pv 0)) (dpo_some (de_un un_gNeg d_neg (do_val (de_int pe_int)))) dpo_none)) da_nil))))
noncomputable abbrev st_bare : Stmt := topS 13
theorem sc_bare : FnScope ["word", "letter"] ["word"] (defScope st_bare) := ⟨rfl, rfl, rfl, by decide +kernel, rfl, by decide +kernel, by decide +kernel⟩
theorem ok_bare {P : Program} {w : World} {K : PySem.W.Frag} {mg : Str → Option Value} {base : Heap} {A0 : Adr} (T : Txt K mg A0) (c_letters_of : Cal P w K mg base "letters_of" 3 ["word"] [] (spE (gk K mg) [false] m_letters_of)) : Cal P w K mg base "bare" 4 ["word"] [] (spE (gk K mg) [false] m_bare) := by
  refine Cal.mk' T.r_bare sc_bare (fun vs H Q E h => spE_len h) (fun _ _ _ _ _ _ us hl => match us, hl with | [_], _ => rfl) (fun f cd A out sh H vs Q E hr h => ?_)
  have hu64 := hr.r.units
  have hu1 := hu_of hr.r
  have hu128 := hu128_of hr.r
  have hgd := hr.g
  refine ⟨rdS (gk K mg) (WE E) (ioIx 0 [false]) m_bare_m, ?_, fn_run h⟩
  exact (ds_one (ds_ret (de_m1 (pe_m1 PySem.F.slot_str_join PySem.F.type_str_join (mt_gJoin (K := K) rfl) (do_val (G := gk K mg) (de_str pe_str (by decide +kernel))) (do_val (G := gk K mg) (de_lc (G := gk K mg) (own := [("letter", 1)]) (J := [0]) (g := (gName 1)) (by rfl) sc_bare.nd (di_val (de_cal c_letters_of (hr.mono (by decide)) tkG does_cal (da_cons (do_sl (pv 0)) da_nil)) rfl) (blkOk_by (own := [("letter", 1)]) (by rfl)) (fun _ _ _ _ _ => (pg_name (i := 1) sc_bare.nd rfl (by first | exact Or.inl rfl | exact Or.inr rfl))) (fun _ _ _ _ _ => dts_nil) (fun _ _ _ _ _ => (de_ix (ix_k gIx K rfl (ix_g hu1)) d_ix (do_sl (pv 1)) (do_val (de_int pe_int)) (fun _ _ => rfl))) (tg_name (by decide)) rfl (cov_ok (n := 2) (by decide) rfl)))) (doesm_1 d_join))))
noncomputable abbrev st_as_bare : Stmt := topS 19
theorem sc_as_bare : FnScope ["words", "word"] ["words"] (defScope st_as_bare) := ⟨rfl, rfl, rfl, by decide +kernel, rfl, by decide +kernel, by decide +kernel⟩
theorem ok_as_bare {P : Program} {w : World} {K : PySem.W.Frag} {mg : Str → Option Value} {base : Heap} {A0 : Adr} (T : Txt K mg A0) (c_bare : Cal P w K mg base "bare" 4 ["word"] [] (spE (gk K mg) [false] m_bare)) : Cal P w K mg base "as_bare" 5 ["words"] [] (spE (gk K mg) [false] m_as_bare) := by
  refine Cal.mk' T.r_as_bare sc_as_bare (fun vs H Q E h => spE_len h) (fun _ _ _ _ _ _ us hl => match us, hl with | [_], _ => rfl) (fun f cd A out sh H vs Q E hr h => ?_)
  have hu64 := hr.r.units
  have hu1 := hu_of hr.r
  have hu128 := hu128_of hr.r
  have hgd := hr.g
  refine ⟨rdS (gk K mg) (WE E) (ioIx 0 [false]) m_as_bare_m, ?_, fn_run h⟩
  exact (ds_one (ds_ret (de_lc (G := gk K mg) (own := [("word", 1)]) (J := [0]) (g := (gName 1)) (by rfl) sc_as_bare.nd (di_val (de_mv (pv 0)) rfl) (blkOk_by (own := [("word", 1)]) (by rfl)) (fun _ _ _ _ _ => (pg_name (i := 1) sc_as_bare.nd rfl (by first | exact Or.inl rfl | exact Or.inr rfl))) (fun _ _ _ _ _ => dts_nil) (fun _ _ _ _ _ => (de_cal c_bare (hr.mono (by decide)) takes0 does_cal (da_cons (do_sl (pv 1)) da_nil))) (tg_name (by decide)) rfl (cov_ok (n := 2) (by decide) rfl))))
noncomputable abbrev st_in_capitals : Stmt := topS 20
theorem sc_in_capitals : FnScope ["words", "word"] ["words"] (defScope st_in_capitals) := ⟨rfl, rfl, rfl, by decide +kernel, rfl, by decide +kernel, by decide +kernel⟩
theorem ok_in_capitals {P : Program} {w : World} {K : PySem.W.Frag} {mg : Str → Option Value} {base : Heap} {A0 : Adr} (T : Txt K mg A0)  : Cal P w K mg base "in_capitals" 1 ["words"] [] (spE (gk K mg) [false] m_in_capitals) := by
  refine Cal.mk' T.r_in_capitals sc_in_capitals (fun vs H Q E h => spE_len h) (fun _ _ _ _ _ _ us hl => match us, hl with | [_], _ => rfl) (fun f cd A out sh H vs Q E hr h => ?_)
  have hu64 := hr.r.units
  have hu1 := hu_of hr.r
  have hu128 := hu128_of hr.r
  have hgd := hr.g
  refine ⟨rdS (gk K mg) (WE E) (ioIx 0 [false]) m_in_capitals_m, ?_, fn_run h⟩
  exact (ds_one (ds_ret (de_lc (G := gk K mg) (own := [("word", 1)]) (J := [0]) (g := (gName 1)) (by rfl) sc_in_capitals.nd (di_val (de_mv (pv 0)) rfl) (blkOk_by (own := [("word", 1)]) (by rfl)) (fun _ _ _ _ _ => (pg_name (i := 1) sc_in_capitals.nd rfl (by first | exact Or.inl rfl | exact Or.inr rfl))) (fun _ _ _ _ _ => dts_nil) (fun _ _ _ _ _ => (de_m0 (pe_m0 PySem.F.slot_str_upper PySem.F.type_str_upper mt_upper (do_sl (pv 1))) (doesm_0 d_upper))) (tg_name (by decide)) rfl (cov_ok (n := 2) (by decide) rfl))))
noncomputable abbrev st_law_due : Stmt := topS 28
theorem sc_law_due : FnScope ["_law_mode", "_law_words", "_law_whole", "_law_word", "_law_k", "_law_letter"] ["_law_mode", "_law_words"] (defScope st_law_due) := ⟨rfl, rfl, rfl, by decide +kernel, rfl, by decide +kernel, by decide +kernel⟩
theorem ok_l_due {P : Program} {w : World} {K : PySem.W.Frag} {mg : Str → Option Value} {base : Heap} {A0 : Adr} (T : Txt K mg A0)  : Cal P w K mg base "_law_due" 1 ["_law_mode", "_law_words"] [] (spE (gk K mg) [false, false] m_l_due) := by
  refine Cal.mk' T.r_law_due sc_law_due (fun vs H Q E h => spE_len h) (fun _ _ _ _ _ _ us hl => match us, hl with | [_, _], _ => rfl) (fun f cd A out sh H vs Q E hr h => ?_)
  have hu64 := hr.r.units
  have hu1 := hu_of hr.r
  have hu128 := hu128_of hr.r
  have hgd := hr.g
  refine ⟨rdS (gk K mg) (WE E) (ioIx 0 [false, false]) m_l_due_m, ?_, fn_run h⟩
  exact (ds_cons (ds_if (dt_cmp (op_k gEq K rfl (op_gEq hu64)) d_eq (do_sl (pv 0)) (do_val (de_str pe_str (by decide +kernel))) (nomark _)) (ds_one (ds_ret (de_lc (G := gk K mg) (own := [("_law_word", 3)]) (J := [0, 1, 2, 4, 5]) (g := (gName 3)) (by rfl) sc_law_due.nd (di_val (de_mv (pv 1)) rfl) (blkOk_by (own := [("_law_word", 3)]) (by rfl)) (fun _ _ _ _ _ => (pg_name (i := 3) sc_law_due.nd rfl (by first | exact Or.inl rfl | exact Or.inr rfl))) (fun _ _ _ _ _ => dts_nil) (fun _ _ _ _ _ => (de_op (op_k gAdd K rfl op_gAdd) d_add (do_val (de_ix (ix_k gIx K rfl (ix_g hu1)) d_ix (do_sl (pv 3)) (do_val (de_int pe_int)) (fun _ _ => rfl))) (do_val (de_str pe_str (by decide +kernel))))) (tg_name (by decide)) rfl (cov_ok (n := 6) (by decide) rfl)))) ds_nil)
      (ds_cons (ds_if (dt_cmp (op_k gEq K rfl (op_gEq hu64)) d_eq (do_sl (pv 0)) (do_val (de_str pe_str (by decide +kernel))) (nomark _)) (ds_one (ds_ret (de_lc (G := gk K mg) (own := [("_law_word", 3)]) (J := [0, 1, 2, 4, 5]) (g := (gName 3)) (by rfl) sc_law_due.nd (di_val (de_mv (pv 1)) rfl) (blkOk_by (own := [("_law_word", 3)]) (by rfl)) (fun _ _ _ _ _ => (pg_name (i := 3) sc_law_due.nd rfl (by first | exact Or.inl rfl | exact Or.inr rfl))) (fun _ _ _ _ _ => dts_nil) (fun _ _ _ _ _ => (de_m1 (pe_m1 PySem.F.slot_str_join PySem.F.type_str_join (mt_gJoin (K := K) rfl) (do_val (G := gk K mg) (de_str pe_str (by decide +kernel))) (do_val (G := gk K mg) (de_lc (G := gk K mg) (own := [("_law_letter", 5)]) (J := [0, 1, 2, 3, 4]) (g := (gName 5)) (by rfl) sc_law_due.nd (di_val (de_mv (pv 3)) rfl) (blkOk_by (own := [("_law_letter", 5)]) (by rfl)) (fun _ _ _ _ _ => (pg_name (i := 5) sc_law_due.nd rfl (by first | exact Or.inl rfl | exact Or.inr rfl))) (fun _ _ _ _ _ => dts_nil) (fun _ _ _ _ _ => (de_ix (ix_k gIx K rfl (ix_g hu1)) d_ix (do_sl (pv 5)) (do_val (de_int pe_int)) (fun _ _ => rfl))) (tg_name (by decide)) rfl (cov_ok (n := 6) (by decide) rfl)))) (doesm_1 d_join))) (tg_name (by decide)) rfl (cov_ok (n := 6) (by decide) rfl)))) ds_nil)
      (ds_cons (ds_if (dt_cmp (op_k gEq K rfl (op_gEq hu64)) d_eq (do_sl (pv 0)) (do_val (de_str pe_str (by decide +kernel))) (nomark _)) (ds_one (ds_ret (de_lc (G := gk K mg) (own := [("_law_word", 3)]) (J := [0, 1, 2, 4, 5]) (g := (gName 3)) (by rfl) sc_law_due.nd (di_val (de_mv (pv 1)) rfl) (blkOk_by (own := [("_law_word", 3)]) (by rfl)) (fun _ _ _ _ _ => (pg_name (i := 3) sc_law_due.nd rfl (by first | exact Or.inl rfl | exact Or.inr rfl))) (fun _ _ _ _ _ => dts_nil) (fun _ _ _ _ _ => (de_m1 (pe_m1 PySem.F.slot_str_join PySem.F.type_str_join (mt_gJoin (K := K) rfl) (do_val (G := gk K mg) (de_str pe_str (by decide +kernel))) (do_val (G := gk K mg) (de_lc (G := gk K mg) (own := [("_law_letter", 5)]) (J := [0, 1, 2, 3, 4]) (g := (gName 5)) (by rfl) sc_law_due.nd (di_val (de_mv (pv 3)) rfl) (blkOk_by (own := [("_law_letter", 5)]) (by rfl)) (fun _ _ _ _ _ => (pg_name (i := 5) sc_law_due.nd rfl (by first | exact Or.inl rfl | exact Or.inr rfl))) (fun _ _ _ _ _ => dts_nil) (fun _ _ _ _ _ => (de_m0 (pe_m0 PySem.F.slot_str_upper PySem.F.type_str_upper mt_upper (do_sl (pv 5))) (doesm_0 d_upper))) (tg_name (by decide)) rfl (cov_ok (n := 6) (by decide) rfl)))) (doesm_1 d_join))) (tg_name (by decide)) rfl (cov_ok (n := 6) (by decide) rfl)))) ds_nil)
      (ds_cons (ds_asg (ps_set (i := 2) sc_law_due.nd rfl (by first | exact Or.inl rfl | exact Or.inr rfl) (de_lc (G := gk K mg) (own := [("_law_word", 3)]) (J := [0, 1, 2, 4, 5]) (g := (gName 3)) (by rfl) sc_law_due.nd (di_val (de_mv (pv 1)) rfl) (blkOk_by (own := [("_law_word", 3)]) (by rfl)) (fun _ _ _ _ _ => (pg_name (i := 3) sc_law_due.nd rfl (by first | exact Or.inl rfl | exact Or.inr rfl))) (fun _ _ _ _ _ => dts_nil) (fun _ _ _ _ _ => (de_m1 (pe_m1 PySem.F.slot_str_join PySem.F.type_str_join (mt_gJoin (K := K) rfl) (do_val (G := gk K mg) (de_str pe_str (by decide +kernel))) (do_sl (pv 3))) (doesm_1 d_join))) (tg_name (by decide)) rfl (cov_ok (n := 6) (by decide) rfl))) (tg_name (by decide)))
      (ds_cons (ds_if (dt_cmp (op_k gEq K rfl (op_gEq hu64)) d_eq (do_sl (pv 0)) (do_val (de_str pe_str (by decide +kernel))) (nomark _)) (ds_one (ds_ret (de_lc (G := gk K mg) (own := [("_law_k", 4)]) (J := [0, 1, 2, 3, 5]) (g := (gName 4)) (by rfl) sc_law_due.nd (di_rng1 (by rfl) T.b_range (da_cons (do_val (de_cb (cr_k gLen K rfl call_gLen) (does_1 d_len) (by rfl) T.b_len (by decide +kernel) (da_cons (do_sl (pv 2)) da_nil))) da_nil) rfl) (blkOk_by (own := [("_law_k", 4)]) (by rfl)) (fun _ _ _ _ _ => (pg_name (i := 4) sc_law_due.nd rfl (by first | exact Or.inl rfl | exact Or.inr rfl))) (fun _ _ _ _ _ => (by exact (dts_one (dt_cmp (op_k gEq K rfl (op_gEq hu64)) d_eq (do_sl (pv 4)) (do_val (de_int pe_int)) (nomark _))))) (fun _ _ _ _ _ => (de_ix (ix_k gIx K rfl (ix_g hu1)) d_ix (do_sl (pv 2)) (do_sl (pv 4)) (fun _ _ => rfl))) (tg_name (by decide)) rfl (cov_ok (n := 6) (by decide) rfl)))) ds_nil)
      (ds_cons (ds_if (dt_cmp (op_k gEq K rfl (op_gEq hu64)) d_eq (do_sl (pv 0)) (do_val (de_str pe_str (by decide +kernel))) (nomark _)) (ds_one (ds_ret (de_lc (G := gk K mg) (own := [("_law_k", 4)]) (J := [0, 1, 2, 3, 5]) (g := (gName 4)) (by rfl) sc_law_due.nd (di_rng1 (by rfl) T.b_range (da_cons (do_val (de_cb (cr_k gLen K rfl call_gLen) (does_1 d_len) (by rfl) T.b_len (by decide +kernel) (da_cons (do_sl (pv 2)) da_nil))) da_nil) rfl) (blkOk_by (own := [("_law_k", 4)]) (by rfl)) (fun _ _ _ _ _ => (pg_name (i := 4) sc_law_due.nd rfl (by first | exact Or.inl rfl | exact Or.inr rfl))) (fun _ _ _ _ _ => (by exact (dts_one (dt_cmp (op_k gEq K rfl (op_gEq hu64)) d_eq (do_sl (pv 4)) (do_val (de_op op_gMinus d_sub (do_val (de_cb (cr_k gLen K rfl call_gLen) (does_1 d_len) (by rfl) T.b_len (by decide +kernel) (da_cons (do_sl (pv 2)) da_nil))) (do_val (de_int pe_int)))) (nomark _))))) (fun _ _ _ _ _ => (de_ix (ix_k gIx K rfl (ix_g hu1)) d_ix (do_sl (pv 2)) (do_sl (pv 4)) (fun _ _ => rfl))) (tg_name (by decide)) rfl (cov_ok (n := 6) (by decide) rfl)))) ds_nil)
      (ds_one (ds_ret (de_mv (pv 2))))))))))
noncomputable abbrev st_law_bad : Stmt := topS 30
theorem sc_law_bad : FnScope ["_law_box_here", "_law_mode", "_law_at", "_law_some"] ["_law_box_here", "_law_mode"] (defScope st_law_bad) := ⟨rfl, rfl, rfl, by decide +kernel, rfl, by decide +kernel, by decide +kernel⟩
theorem ok_l_bad {P : Program} {w : World} {K : PySem.W.Frag} {mg : Str → Option Value} {base : Heap} {A0 : Adr} (T : Txt K mg A0) (c_l_take : Cal P w K mg base "_law_take" 1 ["_law_box_here", "_law_many"] [] (spE (gk K mg) [true, false] m_l_take)) : Cal P w K mg base "_law_bad" 2 ["_law_box_here", "_law_mode"] [] (spE (gk K mg) [true, false] m_l_bad) := by
  refine Cal.mk' T.r_law_bad sc_law_bad (fun vs H Q E h => spE_len h) (fun _ _ _ _ _ _ us hl => match us, hl with | [_, _], _ => rfl) (fun f cd A out sh H vs Q E hr h => ?_)
  have hu64 := hr.r.units
  have hu1 := hu_of hr.r
  have hu128 := hu128_of hr.r
  have hgd := hr.g
  refine ⟨rdS (gk K mg) (WE E) (ioIx 0 [true, false]) m_l_bad_m, ?_, fn_run h⟩
  exact (ds_cons (ds_asg (ps_set (i := 2) sc_law_bad.nd rfl (by first | exact Or.inl rfl | exact Or.inr rfl) (de_cal c_l_take (hr.mono (by decide)) tkG does_cal (da_cons (do_io (pv 0)) (da_cons (do_val (de_cb (cr_k gLen K rfl call_gLen) (does_1 d_len) (by rfl) T.b_len (by decide +kernel) (da_cons (do_sl (pv 1)) da_nil))) da_nil)))) (tg_name (by decide)))
      (ds_cons (ds_asg (ps_set (i := 3) sc_law_bad.nd rfl (by first | exact Or.inl rfl | exact Or.inr rfl) (de_lst (da_cons (do_own (de_op (op_k gAdd K rfl op_gAdd) d_add (do_val (de_sl (sl_k gSl K rfl sl_g) d_sl (do_sl (pv 1)) dpo_none (dpo_some (de_cp (pv 2))))) (do_val (de_sl (sl_k gSl K rfl sl_g) d_sl (do_sl (pv 1)) (dpo_some (de_op (op_k gAdd K rfl op_gAdd) d_add (do_sl (pv 2)) (do_val (de_int pe_int)))) dpo_none)))) (da_cons (do_own (de_op (op_k gAdd K rfl op_gAdd) d_add (do_val (de_op (op_k gAdd K rfl op_gAdd) d_add (do_val (de_sl (sl_k gSl K rfl sl_g) d_sl (do_sl (pv 1)) dpo_none (dpo_some (de_cp (pv 2))))) (do_val (de_str pe_str (by decide +kernel))))) (do_val (de_sl (sl_k gSl K rfl sl_g) d_sl (do_sl (pv 1)) (dpo_some (de_cp (pv 2))) dpo_none)))) (da_cons (do_own (de_op (op_k gAdd K rfl op_gAdd) d_add (do_val (de_op (op_k gAdd K rfl op_gAdd) d_add (do_val (de_sl (sl_k gSl K rfl sl_g) d_sl (do_sl (pv 1)) dpo_none (dpo_some (de_cp (pv 2))))) (do_val (de_m0 (pe_m0 PySem.F.slot_str_upper PySem.F.type_str_upper mt_upper (do_val (G := gk K mg) (de_ix (ix_k gIx K rfl (ix_g hu1)) d_ix (do_sl (pv 1)) (do_sl (pv 2)) (fun _ _ => rfl)))) (doesm_0 d_upper))))) (do_val (de_sl (sl_k gSl K rfl sl_g) d_sl (do_sl (pv 1)) (dpo_some (de_op (op_k gAdd K rfl op_gAdd) d_add (do_sl (pv 2)) (do_val (de_int pe_int)))) dpo_none)))) da_nil))) rfl)) (tg_name (by decide)))
      (ds_cons (ds_asg (ps_set (i := 3) sc_law_bad.nd rfl (by first | exact Or.inl rfl | exact Or.inr rfl) (de_op (op_k gAdd K rfl op_gAdd) d_add (do_sl (pv 3)) (do_own (de_lst (da_cons (do_own (de_str pe_str (by decide +kernel))) (da_cons (do_own (de_op (op_k gAdd K rfl op_gAdd) d_add (do_sl (pv 1)) (do_val (de_str pe_str (by decide +kernel))))) (da_cons (do_own (de_non pe_non)) (da_cons (do_own (de_int pe_int)) (da_cons (do_own (de_bl pe_bl)) (da_cons (do_own (de_lst (da_cons (do_own (de_cp (pv 1))) da_nil) rfl)) (da_cons (do_own (de_tup (da_cons (do_own (de_cp (pv 1))) da_nil) rfl)) (da_cons (do_own (de_dnew pe_dnewK)) (da_cons (do_own (de_disp (dd_cons (do_sl (pv 1)) (do_sl (pv 1)) dd_nil) (by rfl) (by rfl) (by rfl) (by simp) (by simp))) (da_cons (do_own (de_str pe_str (by decide +kernel))) da_nil)))))))))) rfl)))) (tg_name (by decide)))
      (ds_one (ds_ret (de_ix (ix_k gIx K rfl (ix_g hu1)) d_ix (do_own (de_mv (pv 3))) (do_val (de_cal c_l_take (hr.mono (by decide)) tkG does_cal (da_cons (do_io (pv 0)) (da_cons (do_val (de_int pe_int)) da_nil)))) (fun _ _ => rfl)))))))
theorem ok_mode_of_1 {P : Program} {w : World} {K : PySem.W.Frag} {mg : Str → Option Value} {base : Heap} {A0 : Adr} (T : Txt K mg A0)  (hpp : w.params = A0.pp) : Cal P w K mg base "mode_of" 1 ["mode"] [] (spE (gk K mg) [false] m_mode_of_1) := by
  refine Cal.mk' T.r_mode_of sc_mode_of (fun vs H Q E h => spE_len h) (fun _ _ _ _ _ _ us hl => match us, hl with | [_], _ => rfl) (fun f cd A out sh H vs Q E hr h => ?_)
  have hu64 := hr.r.units
  have hu1 := hu_of hr.r
  have hu128 := hu128_of hr.r
  have hgd := hr.g
  refine ⟨rdS (gk K mg) (WE E) (ioIx 0 [false]) m_mode_of_1_m, ?_, fn_run h⟩
  exact (ds_cons (ds_if (dt_not (dt_tru rfl (de_cb (cr_k gIsi K rfl call_gIsi) (does_2 d_isi) (by rfl) T.b_isinstance (by decide +kernel) (da_cons (do_sl (pv 0)) (da_cons (do_val (de_ty (pe_ty (T := "str") T.b_str (by decide +kernel)))) da_nil))))) (ds_one (ds_raise (cnOf_eq T.g_NoMode) rfl tkG tlKE T.x_NoMode T.g_NoMode (hr.mono (Nat.zero_le _)) (by decide +kernel) (by decide +kernel) (by decide +kernel) (de_pt (k := 0) (pv 0)))) ds_nil)
      (ds_one (ds_tryK rfl rfl (fun _ => PassesOwnAt.leaving) tkG rfl (T.d_MODES w hpp) rfl (fun _ _ => pv 0) (fun _ _ => rfl) (by rfl) (by decide) (by rfl) T.b_KeyError (fun a0 oe0 pn0 tk2 hot0 => ds_raiseH (cnOf_eq T.g_NoMode) hot0 tk2 tlKE T.x_NoMode T.g_NoMode (dp2 hr) (by decide +kernel) (by decide +kernel) (by decide +kernel) (de_pt (k := 0) (pv 0)) (show fldX "NoMode" = ("found" : Str) from by decide +kernel) (by rfl) (by decide) (by rfl) (by rfl)))))
noncomputable abbrev st_law_refused : Stmt := topS 29
theorem sc_law_refused : FnScope ["_law_thing", "e"] ["_law_thing"] (defScope st_law_refused) := ⟨rfl, rfl, rfl, by decide +kernel, rfl, by decide +kernel, by decide +kernel⟩
theorem ok_l_refused {P : Program} {w : World} {K : PySem.W.Frag} {mg : Str → Option Value} {base : Heap} {A0 : Adr} (bm : BaseM base) (T : Txt K mg A0) (c_mode_of_1 : Cal P w K mg base "mode_of" 1 ["mode"] [] (spE (gk K mg) [false] m_mode_of_1)) : Cal P w K mg base "_law_refused" 2 ["_law_thing"] [] (spE (gk K mg) [true] m_l_refused) := by
  refine Cal.mk' T.r_law_refused sc_law_refused (fun vs H Q E h => spE_len h) (fun _ _ _ _ _ _ us hl => match us, hl with | [_], _ => rfl) (fun f cd A out sh H vs Q E hr h => ?_)
  have hu64 := hr.r.units
  have hu1 := hu_of hr.r
  have hu128 := hu128_of hr.r
  have hgd := hr.g
  refine ⟨rdS (gk K mg) (WE E) (ioIx 0 [true]) m_l_refused_m, ?_, fn_run h⟩
  exact (dss_lab (fun _ => (dss_nrm [0] [] [] [] [1] [] (ds_cons (ds_nrm [1] [] [] [] [1] [] (ds_try rfl rfl sc_law_refused.nd tkG (fun W1 pn1 xe1 tk1 po1 => (dss_nrm [] [] [] [] [1] [] (ds_one (ds_expr (de_cal c_mode_of_1 (hr.mono (by decide)) tk1 does_cal (da_cons (do_sl (pv 0)) da_nil)))))) (ClsOk.named (i := 1) rfl rfl ⟨rfl, by decide, Or.inl T.g_NoMode⟩ (fun a oe cls d pn hz hf => su_ok (ms := m_l_refused_w2_0) (fun dd C0 hd hcl => by subst hd; exact (dss_nrm [] [] [] [] [1] [] (ds_cons (ds_nrm [] [] [] [] [] [] (ds_if (dt_tru rfl (de_cb (cr_k gIsi K rfl call_gIsi) (does_2 d_isi) (by rfl) T.b_isinstance (by decide +kernel) (da_cons (do_sl (pv 0)) (da_cons (do_val (de_ty (pe_ty (T := "list") T.b_list (by decide +kernel)))) da_nil)))) (ds_one (ds_expr (de_bm rfl PySem.F.plainAttrs_list PySem.F.slot_list_append PySem.F.type_list_append mt_append chkL_ok (does_lb d_app) (do_io (pv 0)) (da_cons (do_own (de_str pe_str (by decide +kernel))) da_nil)))) ds_nil))
      (ds_one (ds_ret (de_cmp (op_k gEq K rfl (op_gEq hu64)) d_eq (do_val (de_rpr [0] [(0, 0)] (cr_k gRepr K rfl (call_gRepr bm hgd hu64)) (do_val (de_fnd (cnOf_eq T.g_NoMode) T.x_NoMode hz hf hcl (pv 1))) (by rfl) T.b_repr)) (do_val (de_cb (cr_k gRepr K rfl (call_gRepr bm hgd hu64)) (does_1 d_repr) (by rfl) T.b_repr (by decide +kernel) (da_cons (do_sl (pv 0)) da_nil))) (nomark _)))))))) (ClsOk.plain ⟨rfl, by decide, Or.inl T.g_CustomsError⟩ (fun a oe cls d pn hz hf => su_ok (ms := m_l_refused_w2_1) (fun dd C0 hd hcl => by subst hd; exact (dss_nrm [] [] [] [] [1] [] (ds_one (ds_ret (de_bl pe_bl)))))) (ClsOk.plain ⟨rfl, by decide, Or.inl T.g_Unknown⟩ (fun a oe cls d pn hz hf => su_ok (ms := m_l_refused_w2_2) (fun dd C0 hd hcl => by subst hd; exact (dss_nrm [] [] [] [] [1] [] (ds_one (ds_ret (de_bl pe_bl)))))) ClsOk.nil))) (HdOk.cons (D := "NoMode") (oi := some 1) (hx_NoMode T) (by intro i hi; cases hi; decide) (HdOk.cons (D := "CustomsError") (oi := none) (hx_CustomsError T) (by intro i hi; cases hi) (HdOk.cons (D := "Unknown") (oi := none) (hx_Unknown T) (by intro i hi; cases hi) HdOk.nil)))))
      (ds_one (ds_ret (de_bl pe_bl)))))))
noncomputable abbrev st_law : Stmt := topS 31
theorem sc_law : FnScope ["_law_script", "_law_modes", "_law_deeds", "_law_k", "_law_box_here", "_law_many", "_law_words", "_law_whole", "_law_turn", "_law_mode", "_law_deed", "_law_handed", "_law_found", "_law_word"] ["_law_script"] (defScope st_law) := ⟨rfl, rfl, rfl, by decide +kernel, rfl, by decide +kernel, by decide +kernel⟩
theorem ok_law {P : Program} {w : World} {K : PySem.W.Frag} {mg : Str → Option Value} {base : Heap} {A0 : Adr} (T : Txt K mg A0) (c_mode_of : Cal P w K mg base "mode_of" 1 ["mode"] [] (spE (gk K mg) [false] m_mode_of)) (c_l_cell : Cal P w K mg base "_law_cell" 1 ["_law_script", "_law_k"] [] (spE (gk K mg) [false, false] m_l_cell)) (c_l_box : Cal P w K mg base "_law_box" 1 ["_law_cell_here"] [] (spE (gk K mg) [false] m_l_box)) (c_l_take : Cal P w K mg base "_law_take" 1 ["_law_box_here", "_law_many"] [] (spE (gk K mg) [true, false] m_l_take)) (c_l_drawn : Cal P w K mg base "_law_drawn" 2 ["_law_box_here"] [] (spE (gk K mg) [true] m_l_drawn)) (c_in_full : Cal P w K mg base "in_full" 1 ["words"] [] (spE (gk K mg) [false] m_in_full)) (c_as_initials : Cal P w K mg base "as_initials" 4 ["words"] [] (spE (gk K mg) [false] m_as_initials)) (c_first_alone : Cal P w K mg base "first_alone" 1 ["words"] [] (spE (gk K mg) [false] m_first_alone)) (c_last_alone : Cal P w K mg base "last_alone" 1 ["words"] [] (spE (gk K mg) [false] m_last_alone)) (c_as_bare : Cal P w K mg base "as_bare" 5 ["words"] [] (spE (gk K mg) [false] m_as_bare)) (c_in_capitals : Cal P w K mg base "in_capitals" 1 ["words"] [] (spE (gk K mg) [false] m_in_capitals)) (c_l_due : Cal P w K mg base "_law_due" 1 ["_law_mode", "_law_words"] [] (spE (gk K mg) [false, false] m_l_due)) (c_l_bad : Cal P w K mg base "_law_bad" 2 ["_law_box_here", "_law_mode"] [] (spE (gk K mg) [true, false] m_l_bad)) (c_l_refused : Cal P w K mg base "_law_refused" 2 ["_law_thing"] [] (spE (gk K mg) [true] m_l_refused)) (f : Addr) (fd : FuncData) (F : L2.Fun K "law" "law" st_law f fd) : FnG P w K mg base 6 f fd ["_law_script"] (spE (gk K mg) [false] m_law) := by
  refine Fun.okG F sc_law (fun vs H Q E h => spE_len h) (fun cd A out sh H vs Q E hr h => ?_)
  have hu64 := hr.r.units
  have hu1 := hu_of hr.r
  have hu128 := hu128_of hr.r
  have hgd := hr.g
  refine ⟨rdS (gk K mg) (WE E) (ioIx 0 [false]) m_law_m, ?_, fn_run h⟩
  exact (ds_cons (ds_asg (ps_set (i := 1) sc_law.nd rfl (by first | exact Or.inl rfl | exact Or.inr rfl) (de_lst (da_cons (do_own (de_str pe_str (by decide +kernel))) (da_cons (do_own (de_str pe_str (by decide +kernel))) (da_cons (do_own (de_str pe_str (by decide +kernel))) (da_cons (do_own (de_str pe_str (by decide +kernel))) (da_cons (do_own (de_str pe_str (by decide +kernel))) (da_cons (do_own (de_str pe_str (by decide +kernel))) da_nil)))))) rfl)) (tg_name (by decide)))
      (dss_lend 1 [0, 1] [2] (ds_one (ds_lc (G := gk K mg) (i := 2) (own := [("_law_mode", 9)]) (J := [0, 1, 2, 3, 4, 5, 6, 7, 8, 10, 11, 12, 13]) (g := (gName 9)) (by rfl) sc_law.nd rfl rfl (sw_true rfl rfl rfl (by decide +kernel)) (di_val (de_cp (pv 1)) rfl) (blkOk_by (own := [("_law_mode", 9)]) (by rfl)) (fun _ _ _ _ _ => (pg_name (i := 9) sc_law.nd rfl (by first | exact Or.inl rfl | exact Or.inr rfl))) (fun _ _ _ _ _ => dts_nil) (fun _ _ _ _ _ => (de_cal c_mode_of (hr.mono (by decide)) takes0 does_cal (da_cons (do_sl (pv 9)) da_nil))) (tg_name (by decide)) rfl (cov_ok (n := 14) (by decide) rfl) (by decide)))
      (ds_cons (ds_pre [3, 4, 5, 6, 7, 8, 9, 10, 11, 12] [1, 2] (ds_for poG rfl (di_rng1 (by rfl) T.b_range (da_cons (do_val (de_cb (call_gMax rfl) (does_2 d_max) (by rfl) T.b_max (by decide +kernel) (da_cons (do_val (de_int pe_int)) (da_cons (do_val (de_cb (call_gMin rfl) (does_2 d_min) (by rfl) T.b_min (by decide +kernel) (da_cons (do_val (de_int pe_int)) (da_cons (do_val (de_cb (cr_k gLen K rfl call_gLen) (does_1 d_len) (by rfl) T.b_len (by decide +kernel) (da_cons (do_sl (pv 0)) da_nil))) da_nil)))) da_nil)))) da_nil) rfl) (pg_name (i := 3) sc_law.nd rfl (by first | exact Or.inl rfl | exact Or.inr rfl)) (tg_name (by decide))
      (dss_nrm [3, 4, 5, 6, 7, 8, 9, 10, 11, 12] [1, 2] [3, 4, 5, 6, 7, 8, 9, 10, 11, 12] [1, 2] [0, 1, 2, 3, 4, 5, 6, 7, 8, 9, 10, 11, 12, 13] [] (ds_cons (ds_asg (ps_set (i := 4) sc_law.nd rfl (by first | exact Or.inl rfl | exact Or.inr rfl) (de_cal c_l_box (hr.mono (by decide)) tkG does_cal (da_cons (do_val (de_cal c_l_cell (hr.mono (by decide)) tkG does_cal (da_cons (do_sl (pv 0)) (da_cons (do_sl (pv 3)) da_nil)))) da_nil))) (tg_name (by decide)))
      (ds_cons (ds_asg (ps_set (i := 5) sc_law.nd rfl (by first | exact Or.inl rfl | exact Or.inr rfl) (de_ix (ix_k gIx K rfl (ix_g hu1)) d_ix (do_val (de_lst (da_cons (do_own (de_int pe_int)) (da_cons (do_own (de_int pe_int)) da_nil)) rfl)) (do_val (de_cal c_l_take (hr.mono (by decide)) tkG does_cal (da_cons (do_io (pv 4)) (da_cons (do_val (de_int pe_int)) da_nil)))) (fun _ _ => rfl))) (tg_name (by decide)))
      (ds_cons (ds_lc (G := gk K mg) (i := 6) (own := [("_law_turn", 8)]) (J := [0, 1, 2, 3, 4, 5, 6, 7, 9, 10, 11, 12, 13]) (g := (gName 8)) (by rfl) sc_law.nd rfl rfl (sw_true rfl rfl rfl (by decide +kernel)) (di_rng1 (by rfl) T.b_range (da_cons (do_val (de_cal c_l_take (hr.mono (by decide)) tkG does_cal (da_cons (do_io (pv 4)) (da_cons (do_sl (pv 5)) da_nil)))) da_nil) rfl) (blkOk_by (own := [("_law_turn", 8)]) (by rfl)) (fun _ _ _ _ _ => (pg_name (i := 8) sc_law.nd rfl (by first | exact Or.inl rfl | exact Or.inr rfl))) (fun _ _ _ _ _ => dts_nil) (fun _ _ _ _ _ => (de_cal c_l_drawn (hr.mono (by decide)) takes0 does_cal (da_cons (do_io (pv 4)) da_nil))) (tg_name (by decide)) rfl (cov_ok (n := 14) (by decide) rfl) (by decide))
      (dss_lend 1 [0, 1, 2, 4, 6] [7] (ds_one (ds_lc (G := gk K mg) (i := 7) (own := [("_law_word", 13)]) (J := [0, 1, 2, 3, 4, 5, 6, 7, 8, 9, 10, 11, 12]) (g := (gName 13)) (by rfl) sc_law.nd rfl rfl (sw_true rfl rfl rfl (by decide +kernel)) (di_val (de_cp (pv 6)) rfl) (blkOk_by (own := [("_law_word", 13)]) (by rfl)) (fun _ _ _ _ _ => (pg_name (i := 13) sc_law.nd rfl (by first | exact Or.inl rfl | exact Or.inr rfl))) (fun _ _ _ _ _ => dts_nil) (fun _ _ _ _ _ => (de_m1 (pe_m1 PySem.F.slot_str_join PySem.F.type_str_join (mt_gJoin (K := K) rfl) (do_val (G := gk K mg) (de_str pe_str (by decide +kernel))) (do_sl (pv 13))) (doesm_1 d_join))) (tg_name (by decide)) rfl (cov_ok (n := 14) (by decide) rfl) (by decide)))
      (ds_cons (ds_pre [8, 9, 10, 11, 12] [] (ds_for poG rfl (di_rng1 (by rfl) T.b_range (da_cons (do_val (de_int pe_int)) da_nil) rfl) (pg_name (i := 8) sc_law.nd rfl (by first | exact Or.inl rfl | exact Or.inr rfl)) (tg_name (by decide))
      (dss_nrm [8, 9, 10, 11, 12] [1, 2] [8, 9, 10, 11, 12] [1, 2] [0, 1, 2, 3, 4, 5, 6, 7, 8, 9, 10, 11, 12, 13] [] (ds_cons (ds_pre [9, 10, 11, 12] [] (ds_for poG rfl (di_zip (by rfl) T.b_zip (da_cons (do_sl (pv 1)) (da_cons (do_sl (pv 2)) da_nil)) rfl rfl) (pg_tup rfl (pgs_cons (pg_name (i := 9) sc_law.nd rfl (by first | exact Or.inl rfl | exact Or.inr rfl)) (pgs_cons (pg_name (i := 10) sc_law.nd rfl (by first | exact Or.inl rfl | exact Or.inr rfl)) pgs_nil))) (tg_tup rfl (tgs_cons (tg_name (by decide)) (tgs_cons (tg_name (by decide)) tgs_nil)))
      (dss_nrm [9, 10, 11, 12] [1, 2] [9, 10, 11, 12] [1, 2] [0, 1, 2, 3, 4, 5, 6, 7, 8, 9, 10, 11, 12, 13] [] (ds_cons (ds_asg (ps_set (i := 11) sc_law.nd rfl (by first | exact Or.inl rfl | exact Or.inr rfl) (de_ct (cr_k gList K rfl (call_gList rfl)) (does_1 d_list) (by rfl) T.b_list (by decide +kernel) (da_cons (do_sl (pv 7)) da_nil))) (tg_name (by decide)))
      (ds_cons (ds_asg (ps_set (i := 12) sc_law.nd rfl (by first | exact Or.inl rfl | exact Or.inr rfl) (de_dsp (kk := 5) rfl (by intro q hq; simp only [m_law_f18, List.mem_cons, List.not_mem_nil, or_false] at hq; rcases hq with rfl | rfl | rfl | rfl | rfl | rfl; exact ⟨_, _, by decide, c_in_full⟩; exact ⟨_, _, by decide, c_as_initials⟩; exact ⟨_, _, by decide, c_first_alone⟩; exact ⟨_, _, by decide, c_last_alone⟩; exact ⟨_, _, by decide, c_as_bare⟩; exact ⟨_, _, by decide, c_in_capitals⟩) (hr.mono (by decide)) tkG (pv 10) (da_cons (do_ch (dt_cmp (op_k gEq K rfl (op_gEq hu64)) d_eq (do_sl (pv 8)) (do_val (de_int pe_int)) (nomark _)) (do_sl (pv 11)) (do_val (de_ct call_tuple_of (does_1 d_tuple) (by rfl) T.b_tuple (by decide +kernel) (da_cons (do_sl (pv 7)) da_nil)))) da_nil))) (tg_name (by decide)))
      (ds_cons (ds_if (PW.pt (dt_or (dt_not (dt_tru rfl (de_cb (cr_k gIsi K rfl call_gIsi) (does_2 d_isi) (by rfl) T.b_isinstance (by decide +kernel) (da_cons (do_sl (pv 12)) (da_cons (do_val (de_ty (pe_ty (T := "list") T.b_list (by decide +kernel)))) da_nil))))) (dt_or (dt_cmp (op_k gNe K rfl (op_gNe hu64)) d_ne (do_sl (pv 12)) (do_val (de_cal c_l_due (hr.mono (by decide)) tkG does_cal (da_cons (do_sl (pv 9)) (da_cons (do_sl (pv 6)) da_nil)))) (nomark _)) (dt_or1 (dt_cmp (op_k gNe K rfl (op_gNe hu64)) d_ne (do_sl (pv 11)) (do_sl (pv 7)) (nomark _)))))) (ds_one (ds_ret (de_bl pe_bl))) ds_nil)
      (ds_cons (ds_expr (de_bm rfl PySem.F.plainAttrs_list PySem.F.slot_list_append PySem.F.type_list_append mt_append chkL_ok d_app (do_io (pv 12)) (da_cons (do_own (de_str pe_str (by decide +kernel))) da_nil)))
      (ds_cons (ds_if (dt_cmp (op_k gNe K rfl (op_gNe hu64)) d_ne (do_sl (pv 11)) (do_sl (pv 7)) (nomark _)) (ds_one (ds_ret (de_bl pe_bl))) ds_nil)
      ds_nil))))))))
      ds_nil))))
      (ds_cons (ds_if (dt_not (dt_tru rfl (de_cal c_l_refused (hr.mono (by decide)) tkG (does_drp does_cal) (da_cons (do_own (de_cal c_l_bad (hr.mono (by decide)) tkG does_cal (da_cons (do_io (pv 4)) (da_cons (do_val (de_ix (ix_k gIx K rfl (ix_g hu1)) d_ix (do_sl (pv 1)) (do_val (de_cal c_l_take (hr.mono (by decide)) tkG does_cal (da_cons (do_io (pv 4)) (da_cons (do_val (de_int pe_int)) da_nil)))) (fun _ _ => rfl))) da_nil)))) da_nil)))) (ds_one (ds_ret (de_bl pe_bl))) ds_nil)
      ds_nil)))))))))
      (ds_one (ds_ret (de_bl pe_bl))))))
theorem txt_mk {K : PySem.W.Frag} {h : Heap} {mg : Str → Option Value} (kin : K.In h) (G : h.Ns mainGlobals mg)
    {C_CustomsError : Addr} {C_Unknown : Addr} {C_NoWord : Addr} {C_NoMode : Addr} {fi_NoWord N_NoWord : Addr} {nm_NoWord q_NoWord : Str} {bs_NoWord : List Value} {sn_NoWord : List Str} {sb_NoWord : List Value} {ab_NoWord : Bool} {co_NoWord : Option Bool} {dd_NoWord : Option Addr} {k0_NoWord k1_NoWord k2_NoWord k3_NoWord k5_NoWord : Option Value} {oc_NoWord dc_NoWord pm_NoWord cd_NoWord ct_NoWord : Value} {od_NoWord an_NoWord : Option Addr} {sl_NoWord : Array (Option Value)} {fi_NoMode N_NoMode : Addr} {nm_NoMode q_NoMode : Str} {bs_NoMode : List Value} {sn_NoMode : List Str} {sb_NoMode : List Value} {ab_NoMode : Bool} {co_NoMode : Option Bool} {dd_NoMode : Option Addr} {k0_NoMode k1_NoMode k2_NoMode k3_NoMode k5_NoMode : Option Value} {oc_NoMode dc_NoMode pm_NoMode cd_NoMode ct_NoMode : Value} {od_NoMode an_NoMode : Option Addr} {sl_NoMode : Array (Option Value)} {f_letters_in : Addr} {ocf_letters_in kvf_letters_in dcf_letters_in pmf_letters_in cdf_letters_in ctf_letters_in : Value} {odf_letters_in anf_letters_in : Option Addr} {slf_letters_in : Array (Option Value)} {f_is_word : Addr} {ocf_is_word kvf_is_word dcf_is_word pmf_is_word cdf_is_word ctf_is_word : Value} {odf_is_word anf_is_word : Option Addr} {slf_is_word : Array (Option Value)} {f_letters_of : Addr} {ocf_letters_of kvf_letters_of dcf_letters_of pmf_letters_of cdf_letters_of ctf_letters_of : Value} {odf_letters_of anf_letters_of : Option Addr} {slf_letters_of : Array (Option Value)} {f_bare : Addr} {ocf_bare kvf_bare dcf_bare pmf_bare cdf_bare ctf_bare : Value} {odf_bare anf_bare : Option Addr} {slf_bare : Array (Option Value)} {f_in_full : Addr} {ocf_in_full kvf_in_full dcf_in_full pmf_in_full cdf_in_full ctf_in_full : Value} {odf_in_full anf_in_full : Option Addr} {slf_in_full : Array (Option Value)} {f_as_initials : Addr} {ocf_as_initials kvf_as_initials dcf_as_initials pmf_as_initials cdf_as_initials ctf_as_initials : Value} {odf_as_initials anf_as_initials : Option Addr} {slf_as_initials : Array (Option Value)} {f_first_alone : Addr} {ocf_first_alone kvf_first_alone dcf_first_alone pmf_first_alone cdf_first_alone ctf_first_alone : Value} {odf_first_alone anf_first_alone : Option Addr} {slf_first_alone : Array (Option Value)} {f_last_alone : Addr} {ocf_last_alone kvf_last_alone dcf_last_alone pmf_last_alone cdf_last_alone ctf_last_alone : Value} {odf_last_alone anf_last_alone : Option Addr} {slf_last_alone : Array (Option Value)} {f_as_bare : Addr} {ocf_as_bare kvf_as_bare dcf_as_bare pmf_as_bare cdf_as_bare ctf_as_bare : Value} {odf_as_bare anf_as_bare : Option Addr} {slf_as_bare : Array (Option Value)} {f_in_capitals : Addr} {ocf_in_capitals kvf_in_capitals dcf_in_capitals pmf_in_capitals cdf_in_capitals ctf_in_capitals : Value} {odf_in_capitals anf_in_capitals : Option Addr} {slf_in_capitals : Array (Option Value)} {f_mode_of : Addr} {ocf_mode_of kvf_mode_of dcf_mode_of pmf_mode_of cdf_mode_of ctf_mode_of : Value} {odf_mode_of anf_mode_of : Option Addr} {slf_mode_of : Array (Option Value)} {f_law_cell : Addr} {ocf_law_cell kvf_law_cell dcf_law_cell pmf_law_cell cdf_law_cell ctf_law_cell : Value} {odf_law_cell anf_law_cell : Option Addr} {slf_law_cell : Array (Option Value)} {f_law_box : Addr} {ocf_law_box kvf_law_box dcf_law_box pmf_law_box cdf_law_box ctf_law_box : Value} {odf_law_box anf_law_box : Option Addr} {slf_law_box : Array (Option Value)} {f_law_take : Addr} {ocf_law_take kvf_law_take dcf_law_take pmf_law_take cdf_law_take ctf_law_take : Value} {odf_law_take anf_law_take : Option Addr} {slf_law_take : Array (Option Value)} {f_law_drawn : Addr} {ocf_law_drawn kvf_law_drawn dcf_law_drawn pmf_law_drawn cdf_law_drawn ctf_law_drawn : Value} {odf_law_drawn anf_law_drawn : Option Addr} {slf_law_drawn : Array (Option Value)} {f_law_due : Addr} {ocf_law_due kvf_law_due dcf_law_due pmf_law_due cdf_law_due ctf_law_due : Value} {odf_law_due anf_law_due : Option Addr} {slf_law_due : Array (Option Value)} {f_law_refused : Addr} {ocf_law_refused kvf_law_refused dcf_law_refused pmf_law_refused cdf_law_refused ctf_law_refused : Value} {odf_law_refused anf_law_refused : Option Addr} {slf_law_refused : Array (Option Value)} {f_law_bad : Addr} {ocf_law_bad kvf_law_bad dcf_law_bad pmf_law_bad cdf_law_bad ctf_law_bad : Value} {odf_law_bad anf_law_bad : Option Addr} {slf_law_bad : Array (Option Value)} {f_law : Addr} {ocf_law kvf_law dcf_law pmf_law cdf_law ctf_law : Value} {odf_law anf_law : Option Addr} {slf_law : Array (Option Value)} {t_SMALL : Tok} {t_CAPITALS : Tok} {t_MARKS : Tok} {t_MOST_LETTERS : Tok} {pp_ : PySem.Params} {D_MODES : Addr} {es_MODES : Array DictEntry} {n_MODES : Nat}
    (a_CustomsError : PySem.W.nsIn K mainGlobals "CustomsError" = some (some (.ref C_CustomsError)))
    (a_Unknown : PySem.W.nsIn K mainGlobals "Unknown" = some (some (.ref C_Unknown)))
    (a_NoWord : PySem.W.nsIn K mainGlobals "NoWord" = some (some (.ref C_NoWord)))
    (a_NoMode : PySem.W.nsIn K mainGlobals "NoMode" = some (some (.ref C_NoMode)))
    (xl_NoWord : K.lookup C_NoWord = some (excClassObj nm_NoWord q_NoWord C_NoWord N_NoWord bs_NoWord (.ref C_CustomsError :: [.type "ValueError", .type "Exception", .type "BaseException", .type "object"]) true sn_NoWord sb_NoWord ab_NoWord co_NoWord dd_NoWord k0_NoWord k1_NoWord k2_NoWord k3_NoWord k5_NoWord "ValueError.__new__"))
    (sa_NoWord : PySem.W.findIn K (.ref C_NoWord) "__setattr__" = some (some (.builtin "object.__setattr__")))
    (ga_NoWord : PySem.W.findIn K (.ref C_NoWord) "__getattribute__" = some (some (.builtin "BaseException.__getattribute__")))
    (gg_NoWord : PySem.W.findIn K (.ref C_NoWord) "__getattr__" = some none)
    (nf_NoWord : PySem.W.findIn K (.ref C_NoWord) "found" = some none)
    (ic_NoWord : PySem.W.findIn K (.ref C_NoWord) "__init__" = some (some (.ref fi_NoWord)))
    (ti_NoWord : PySem.W.typeIn K (.ref fi_NoWord) = some (.type "function"))
    (li_NoWord : K.lookup fi_NoWord = some ⟨oc_NoWord, od_NoWord, .func (PySem.W.fnOf "__init__" "NoWord.__init__" (defArgs (inClass (topS 3) 0)) (defBody (inClass (topS 3) 0)) (defScope (inClass (topS 3) 0)) .none .none dc_NoWord pm_NoWord an_NoWord cd_NoWord ct_NoWord), sl_NoWord⟩)
    (ci_NoWord : PySem.W.codeIn K cd_NoWord "NoWord.__init__" = true)
    (kc_NoWord : PySem.W.keepIn K (.ref C_NoWord) = true)
    (ec_NoWord : PySem.W.subIn K (.ref C_NoWord) (.type "BaseException") = some true)
    (tc_NoWord : PySem.W.typeIn K (.ref C_NoWord) = some (.type "type"))
    (hc_NoWord : PySem.W.hasDictIn K C_NoWord = true)
    (xl_NoMode : K.lookup C_NoMode = some (excClassObj nm_NoMode q_NoMode C_NoMode N_NoMode bs_NoMode (.ref C_Unknown :: [.type "KeyError", .type "LookupError", .type "Exception", .type "BaseException", .type "object"]) true sn_NoMode sb_NoMode ab_NoMode co_NoMode dd_NoMode k0_NoMode k1_NoMode k2_NoMode k3_NoMode k5_NoMode "LookupError.__new__"))
    (sa_NoMode : PySem.W.findIn K (.ref C_NoMode) "__setattr__" = some (some (.builtin "object.__setattr__")))
    (ga_NoMode : PySem.W.findIn K (.ref C_NoMode) "__getattribute__" = some (some (.builtin "BaseException.__getattribute__")))
    (gg_NoMode : PySem.W.findIn K (.ref C_NoMode) "__getattr__" = some none)
    (nf_NoMode : PySem.W.findIn K (.ref C_NoMode) "found" = some none)
    (ic_NoMode : PySem.W.findIn K (.ref C_NoMode) "__init__" = some (some (.ref fi_NoMode)))
    (ti_NoMode : PySem.W.typeIn K (.ref fi_NoMode) = some (.type "function"))
    (li_NoMode : K.lookup fi_NoMode = some ⟨oc_NoMode, od_NoMode, .func (PySem.W.fnOf "__init__" "NoMode.__init__" (defArgs (inClass (topS 4) 0)) (defBody (inClass (topS 4) 0)) (defScope (inClass (topS 4) 0)) .none .none dc_NoMode pm_NoMode an_NoMode cd_NoMode ct_NoMode), sl_NoMode⟩)
    (ci_NoMode : PySem.W.codeIn K cd_NoMode "NoMode.__init__" = true)
    (kc_NoMode : PySem.W.keepIn K (.ref C_NoMode) = true)
    (ec_NoMode : PySem.W.subIn K (.ref C_NoMode) (.type "BaseException") = some true)
    (tc_NoMode : PySem.W.typeIn K (.ref C_NoMode) = some (.type "type"))
    (hc_NoMode : PySem.W.hasDictIn K C_NoMode = true)
    (rb_CustomsError : PySem.W.readsIn K C_CustomsError (.type "type") = true)
    (sb_CustomsError : PySem.W.specialIn K (.ref C_CustomsError) "__getattribute__" = some (some (.builtin "type.__getattribute__")))
    (ib_CustomsError : PySem.W.findCls K (.ref C_CustomsError) (.type "type") "__init__" = some (.val (.builtin "ValueError.__init__")))
    (rb_Unknown : PySem.W.readsIn K C_Unknown (.type "type") = true)
    (sb_Unknown : PySem.W.specialIn K (.ref C_Unknown) "__getattribute__" = some (some (.builtin "type.__getattribute__")))
    (ib_Unknown : PySem.W.findCls K (.ref C_Unknown) (.type "type") "__init__" = some (.val (.builtin "KeyError.__init__")))
    (hs_CustomsError : PySem.W.subIn K (.ref C_CustomsError) (.type "BaseException") = some true)
    (hi_CustomsError : PySem.W.isClsIn K C_CustomsError = true)
    (ht_CustomsError : PySem.W.typeIn K (.ref C_CustomsError) = some (.type "type"))
    (es_NoWord_CustomsError : PySem.W.subIn K (.ref C_NoWord) (.ref C_CustomsError) = some true)
    (es_NoMode_CustomsError : PySem.W.subIn K (.ref C_NoMode) (.ref C_CustomsError) = some false)
    (hs_Unknown : PySem.W.subIn K (.ref C_Unknown) (.type "BaseException") = some true)
    (hi_Unknown : PySem.W.isClsIn K C_Unknown = true)
    (ht_Unknown : PySem.W.typeIn K (.ref C_Unknown) = some (.type "type"))
    (es_NoWord_Unknown : PySem.W.subIn K (.ref C_NoWord) (.ref C_Unknown) = some false)
    (es_NoMode_Unknown : PySem.W.subIn K (.ref C_NoMode) (.ref C_Unknown) = some true)
    (hs_NoMode : PySem.W.subIn K (.ref C_NoMode) (.type "BaseException") = some true)
    (hi_NoMode : PySem.W.isClsIn K C_NoMode = true)
    (ht_NoMode : PySem.W.typeIn K (.ref C_NoMode) = some (.type "type"))
    (es_NoWord_NoMode : PySem.W.subIn K (.ref C_NoWord) (.ref C_NoMode) = some false)
    (es_NoMode_NoMode : PySem.W.subIn K (.ref C_NoMode) (.ref C_NoMode) = some true)
    (af_letters_in : PySem.W.nsIn K mainGlobals "letters_in" = some (some (.ref f_letters_in)))
    (lf_letters_in : K.lookup f_letters_in = some ⟨ocf_letters_in, odf_letters_in, .func (PySem.W.fnOf "letters_in" "letters_in" (defArgs (topS 10)) (defBody (topS 10)) (defScope (topS 10)) .none kvf_letters_in dcf_letters_in pmf_letters_in anf_letters_in cdf_letters_in ctf_letters_in), slf_letters_in⟩)
    (cf_letters_in : PySem.W.codeIn K cdf_letters_in "letters_in" = true)
    (kf_letters_in : PySem.W.keepIn K (.ref f_letters_in) = true)
    (af_is_word : PySem.W.nsIn K mainGlobals "is_word" = some (some (.ref f_is_word)))
    (lf_is_word : K.lookup f_is_word = some ⟨ocf_is_word, odf_is_word, .func (PySem.W.fnOf "is_word" "is_word" (defArgs (topS 11)) (defBody (topS 11)) (defScope (topS 11)) .none kvf_is_word dcf_is_word pmf_is_word anf_is_word cdf_is_word ctf_is_word), slf_is_word⟩)
    (cf_is_word : PySem.W.codeIn K cdf_is_word "is_word" = true)
    (kf_is_word : PySem.W.keepIn K (.ref f_is_word) = true)
    (af_letters_of : PySem.W.nsIn K mainGlobals "letters_of" = some (some (.ref f_letters_of)))
    (lf_letters_of : K.lookup f_letters_of = some ⟨ocf_letters_of, odf_letters_of, .func (PySem.W.fnOf "letters_of" "letters_of" (defArgs (topS 12)) (defBody (topS 12)) (defScope (topS 12)) .none kvf_letters_of dcf_letters_of pmf_letters_of anf_letters_of cdf_letters_of ctf_letters_of), slf_letters_of⟩)
    (cf_letters_of : PySem.W.codeIn K cdf_letters_of "letters_of" = true)
    (kf_letters_of : PySem.W.keepIn K (.ref f_letters_of) = true)
    (af_bare : PySem.W.nsIn K mainGlobals "bare" = some (some (.ref f_bare)))
    (lf_bare : K.lookup f_bare = some ⟨ocf_bare, odf_bare, .func (PySem.W.fnOf "bare" "bare" (defArgs (topS 13)) (defBody (topS 13)) (defScope (topS 13)) .none kvf_bare dcf_bare pmf_bare anf_bare cdf_bare ctf_bare), slf_bare⟩)
    (cf_bare : PySem.W.codeIn K cdf_bare "bare" = true)
    (kf_bare : PySem.W.keepIn K (.ref f_bare) = true)
    (af_in_full : PySem.W.nsIn K mainGlobals "in_full" = some (some (.ref f_in_full)))
    (lf_in_full : K.lookup f_in_full = some ⟨ocf_in_full, odf_in_full, .func (PySem.W.fnOf "in_full" "in_full" (defArgs (topS 15)) (defBody (topS 15)) (defScope (topS 15)) .none kvf_in_full dcf_in_full pmf_in_full anf_in_full cdf_in_full ctf_in_full), slf_in_full⟩)
    (cf_in_full : PySem.W.codeIn K cdf_in_full "in_full" = true)
    (kf_in_full : PySem.W.keepIn K (.ref f_in_full) = true)
    (af_as_initials : PySem.W.nsIn K mainGlobals "as_initials" = some (some (.ref f_as_initials)))
    (lf_as_initials : K.lookup f_as_initials = some ⟨ocf_as_initials, odf_as_initials, .func (PySem.W.fnOf "as_initials" "as_initials" (defArgs (topS 16)) (defBody (topS 16)) (defScope (topS 16)) .none kvf_as_initials dcf_as_initials pmf_as_initials anf_as_initials cdf_as_initials ctf_as_initials), slf_as_initials⟩)
    (cf_as_initials : PySem.W.codeIn K cdf_as_initials "as_initials" = true)
    (kf_as_initials : PySem.W.keepIn K (.ref f_as_initials) = true)
    (af_first_alone : PySem.W.nsIn K mainGlobals "first_alone" = some (some (.ref f_first_alone)))
    (lf_first_alone : K.lookup f_first_alone = some ⟨ocf_first_alone, odf_first_alone, .func (PySem.W.fnOf "first_alone" "first_alone" (defArgs (topS 17)) (defBody (topS 17)) (defScope (topS 17)) .none kvf_first_alone dcf_first_alone pmf_first_alone anf_first_alone cdf_first_alone ctf_first_alone), slf_first_alone⟩)
    (cf_first_alone : PySem.W.codeIn K cdf_first_alone "first_alone" = true)
    (kf_first_alone : PySem.W.keepIn K (.ref f_first_alone) = true)
    (af_last_alone : PySem.W.nsIn K mainGlobals "last_alone" = some (some (.ref f_last_alone)))
    (lf_last_alone : K.lookup f_last_alone = some ⟨ocf_last_alone, odf_last_alone, .func (PySem.W.fnOf "last_alone" "last_alone" (defArgs (topS 18)) (defBody (topS 18)) (defScope (topS 18)) .none kvf_last_alone dcf_last_alone pmf_last_alone anf_last_alone cdf_last_alone ctf_last_alone), slf_last_alone⟩)
    (cf_last_alone : PySem.W.codeIn K cdf_last_alone "last_alone" = true)
    (kf_last_alone : PySem.W.keepIn K (.ref f_last_alone) = true)
    (af_as_bare : PySem.W.nsIn K mainGlobals "as_bare" = some (some (.ref f_as_bare)))
    (lf_as_bare : K.lookup f_as_bare = some ⟨ocf_as_bare, odf_as_bare, .func (PySem.W.fnOf "as_bare" "as_bare" (defArgs (topS 19)) (defBody (topS 19)) (defScope (topS 19)) .none kvf_as_bare dcf_as_bare pmf_as_bare anf_as_bare cdf_as_bare ctf_as_bare), slf_as_bare⟩)
    (cf_as_bare : PySem.W.codeIn K cdf_as_bare "as_bare" = true)
    (kf_as_bare : PySem.W.keepIn K (.ref f_as_bare) = true)
    (af_in_capitals : PySem.W.nsIn K mainGlobals "in_capitals" = some (some (.ref f_in_capitals)))
    (lf_in_capitals : K.lookup f_in_capitals = some ⟨ocf_in_capitals, odf_in_capitals, .func (PySem.W.fnOf "in_capitals" "in_capitals" (defArgs (topS 20)) (defBody (topS 20)) (defScope (topS 20)) .none kvf_in_capitals dcf_in_capitals pmf_in_capitals anf_in_capitals cdf_in_capitals ctf_in_capitals), slf_in_capitals⟩)
    (cf_in_capitals : PySem.W.codeIn K cdf_in_capitals "in_capitals" = true)
    (kf_in_capitals : PySem.W.keepIn K (.ref f_in_capitals) = true)
    (af_mode_of : PySem.W.nsIn K mainGlobals "mode_of" = some (some (.ref f_mode_of)))
    (lf_mode_of : K.lookup f_mode_of = some ⟨ocf_mode_of, odf_mode_of, .func (PySem.W.fnOf "mode_of" "mode_of" (defArgs (topS 22)) (defBody (topS 22)) (defScope (topS 22)) .none kvf_mode_of dcf_mode_of pmf_mode_of anf_mode_of cdf_mode_of ctf_mode_of), slf_mode_of⟩)
    (cf_mode_of : PySem.W.codeIn K cdf_mode_of "mode_of" = true)
    (kf_mode_of : PySem.W.keepIn K (.ref f_mode_of) = true)
    (af_law_cell : PySem.W.nsIn K mainGlobals "_law_cell" = some (some (.ref f_law_cell)))
    (lf_law_cell : K.lookup f_law_cell = some ⟨ocf_law_cell, odf_law_cell, .func (PySem.W.fnOf "_law_cell" "_law_cell" (defArgs (topS 24)) (defBody (topS 24)) (defScope (topS 24)) .none kvf_law_cell dcf_law_cell pmf_law_cell anf_law_cell cdf_law_cell ctf_law_cell), slf_law_cell⟩)
    (cf_law_cell : PySem.W.codeIn K cdf_law_cell "_law_cell" = true)
    (kf_law_cell : PySem.W.keepIn K (.ref f_law_cell) = true)
    (af_law_box : PySem.W.nsIn K mainGlobals "_law_box" = some (some (.ref f_law_box)))
    (lf_law_box : K.lookup f_law_box = some ⟨ocf_law_box, odf_law_box, .func (PySem.W.fnOf "_law_box" "_law_box" (defArgs (topS 25)) (defBody (topS 25)) (defScope (topS 25)) .none kvf_law_box dcf_law_box pmf_law_box anf_law_box cdf_law_box ctf_law_box), slf_law_box⟩)
    (cf_law_box : PySem.W.codeIn K cdf_law_box "_law_box" = true)
    (kf_law_box : PySem.W.keepIn K (.ref f_law_box) = true)
    (af_law_take : PySem.W.nsIn K mainGlobals "_law_take" = some (some (.ref f_law_take)))
    (lf_law_take : K.lookup f_law_take = some ⟨ocf_law_take, odf_law_take, .func (PySem.W.fnOf "_law_take" "_law_take" (defArgs (topS 26)) (defBody (topS 26)) (defScope (topS 26)) .none kvf_law_take dcf_law_take pmf_law_take anf_law_take cdf_law_take ctf_law_take), slf_law_take⟩)
    (cf_law_take : PySem.W.codeIn K cdf_law_take "_law_take" = true)
    (kf_law_take : PySem.W.keepIn K (.ref f_law_take) = true)
    (af_law_drawn : PySem.W.nsIn K mainGlobals "_law_drawn" = some (some (.ref f_law_drawn)))
    (lf_law_drawn : K.lookup f_law_drawn = some ⟨ocf_law_drawn, odf_law_drawn, .func (PySem.W.fnOf "_law_drawn" "_law_drawn" (defArgs (topS 27)) (defBody (topS 27)) (defScope (topS 27)) .none kvf_law_drawn dcf_law_drawn pmf_law_drawn anf_law_drawn cdf_law_drawn ctf_law_drawn), slf_law_drawn⟩)
    (cf_law_drawn : PySem.W.codeIn K cdf_law_drawn "_law_drawn" = true)
    (kf_law_drawn : PySem.W.keepIn K (.ref f_law_drawn) = true)
    (af_law_due : PySem.W.nsIn K mainGlobals "_law_due" = some (some (.ref f_law_due)))
    (lf_law_due : K.lookup f_law_due = some ⟨ocf_law_due, odf_law_due, .func (PySem.W.fnOf "_law_due" "_law_due" (defArgs (topS 28)) (defBody (topS 28)) (defScope (topS 28)) .none kvf_law_due dcf_law_due pmf_law_due anf_law_due cdf_law_due ctf_law_due), slf_law_due⟩)
    (cf_law_due : PySem.W.codeIn K cdf_law_due "_law_due" = true)
    (kf_law_due : PySem.W.keepIn K (.ref f_law_due) = true)
    (af_law_refused : PySem.W.nsIn K mainGlobals "_law_refused" = some (some (.ref f_law_refused)))
    (lf_law_refused : K.lookup f_law_refused = some ⟨ocf_law_refused, odf_law_refused, .func (PySem.W.fnOf "_law_refused" "_law_refused" (defArgs (topS 29)) (defBody (topS 29)) (defScope (topS 29)) .none kvf_law_refused dcf_law_refused pmf_law_refused anf_law_refused cdf_law_refused ctf_law_refused), slf_law_refused⟩)
    (cf_law_refused : PySem.W.codeIn K cdf_law_refused "_law_refused" = true)
    (kf_law_refused : PySem.W.keepIn K (.ref f_law_refused) = true)
    (af_law_bad : PySem.W.nsIn K mainGlobals "_law_bad" = some (some (.ref f_law_bad)))
    (lf_law_bad : K.lookup f_law_bad = some ⟨ocf_law_bad, odf_law_bad, .func (PySem.W.fnOf "_law_bad" "_law_bad" (defArgs (topS 30)) (defBody (topS 30)) (defScope (topS 30)) .none kvf_law_bad dcf_law_bad pmf_law_bad anf_law_bad cdf_law_bad ctf_law_bad), slf_law_bad⟩)
    (cf_law_bad : PySem.W.codeIn K cdf_law_bad "_law_bad" = true)
    (kf_law_bad : PySem.W.keepIn K (.ref f_law_bad) = true)
    (af_law : PySem.W.nsIn K mainGlobals "law" = some (some (.ref f_law)))
    (lf_law : K.lookup f_law = some ⟨ocf_law, odf_law, .func (PySem.W.fnOf "law" "law" (defArgs (topS 31)) (defBody (topS 31)) (defScope (topS 31)) .none kvf_law dcf_law pmf_law anf_law cdf_law ctf_law), slf_law⟩)
    (cf_law : PySem.W.codeIn K cdf_law "law" = true)
    (kf_law : PySem.W.keepIn K (.ref f_law) = true)
    (cc_SMALL : PySem.W.nsIn K mainGlobals "SMALL" = some (some (.str "abcdefghijklmnopqrstuvwxyz" t_SMALL)))
    (cc_CAPITALS : PySem.W.nsIn K mainGlobals "CAPITALS" = some (some (.str "ABCDEFGHIJKLMNOPQRSTUVWXYZ" t_CAPITALS)))
    (cc_MARKS : PySem.W.nsIn K mainGlobals "MARKS" = some (some (.str "'`^~:" t_MARKS)))
    (cc_MOST_LETTERS : PySem.W.nsIn K mainGlobals "MOST_LETTERS" = some (some (.int 8 t_MOST_LETTERS)))
    (ad_MODES : PySem.W.nsIn K mainGlobals "MODES" = some (some (.ref D_MODES)))
    (dl_MODES : K.lookup D_MODES = some ⟨.type "dict", none, .dict es_MODES n_MODES, #[]⟩)
    (dm_MODES : (D_MODES == PySem.sysModules) = false)
    (dh_MODES : es_MODES.toList.map He.keyOf = He.keysIn pp_ ["full", "initials", "first", "last", "bare", "high"])
    (dk_MODES_full : PySem.W.nsIn K D_MODES "full" = some (some (.ref f_in_full)))
    (dk_MODES_initials : PySem.W.nsIn K D_MODES "initials" = some (some (.ref f_as_initials)))
    (dk_MODES_first : PySem.W.nsIn K D_MODES "first" = some (some (.ref f_first_alone)))
    (dk_MODES_last : PySem.W.nsIn K D_MODES "last" = some (some (.ref f_last_alone)))
    (dk_MODES_bare : PySem.W.nsIn K D_MODES "bare" = some (some (.ref f_as_bare)))
    (dk_MODES_high : PySem.W.nsIn K D_MODES "high" = some (some (.ref f_in_capitals)))
    (nb_KeyError : PySem.W.nsIn K mainGlobals "KeyError" = some none)
    (nb_isinstance : PySem.W.nsIn K mainGlobals "isinstance" = some none)
    (nb_len : PySem.W.nsIn K mainGlobals "len" = some none)
    (nb_list : PySem.W.nsIn K mainGlobals "list" = some none)
    (nb_max : PySem.W.nsIn K mainGlobals "max" = some none)
    (nb_min : PySem.W.nsIn K mainGlobals "min" = some none)
    (nb_range : PySem.W.nsIn K mainGlobals "range" = some none)
    (nb_repr : PySem.W.nsIn K mainGlobals "repr" = some none)
    (nb_str : PySem.W.nsIn K mainGlobals "str" = some none)
    (nb_tuple : PySem.W.nsIn K mainGlobals "tuple" = some none)
    (nb_zip : PySem.W.nsIn K mainGlobals "zip" = some none) : Txt K mg ⟨0, C_CustomsError, C_Unknown, C_NoWord, fi_NoWord, C_NoMode, fi_NoMode, pp_⟩ :=
  {
    d_MODES := fun w hw => ⟨D_MODES, PySem.W.mg_of kin G ad_MODES, En.miss_all dl_MODES dh_MODES hw dm_MODES (by decide +kernel), fun p hp => by
      simp only [En.tbn, En.Z.mds_MODES, List.map_cons, List.map_nil, List.mem_cons, List.not_mem_nil, or_false] at hp
      rcases hp with rfl | rfl | rfl | rfl | rfl | rfl
      · refine ⟨es_MODES, n_MODES, .ref f_in_full, dl_MODES, hw ▸ He.keysLit_of dh_MODES, ?_, ?_⟩
        · exact (congrArg (PySem.W.nsIn K D_MODES) (show tx (En.nn (['f', 'u', 'l', 'l'] : En.Tx)) = "full" from by decide +kernel)).trans dk_MODES_full
        · rw [En.cnOf_eq (PySem.W.mg_of kin G af_in_full)]; rfl
      · refine ⟨es_MODES, n_MODES, .ref f_as_initials, dl_MODES, hw ▸ He.keysLit_of dh_MODES, ?_, ?_⟩
        · exact (congrArg (PySem.W.nsIn K D_MODES) (show tx (En.nn (['i', 'n', 'i', 't', 'i', 'a', 'l', 's'] : En.Tx)) = "initials" from by decide +kernel)).trans dk_MODES_initials
        · rw [En.cnOf_eq (PySem.W.mg_of kin G af_as_initials)]; rfl
      · refine ⟨es_MODES, n_MODES, .ref f_first_alone, dl_MODES, hw ▸ He.keysLit_of dh_MODES, ?_, ?_⟩
        · exact (congrArg (PySem.W.nsIn K D_MODES) (show tx (En.nn (['f', 'i', 'r', 's', 't'] : En.Tx)) = "first" from by decide +kernel)).trans dk_MODES_first
        · rw [En.cnOf_eq (PySem.W.mg_of kin G af_first_alone)]; rfl
      · refine ⟨es_MODES, n_MODES, .ref f_last_alone, dl_MODES, hw ▸ He.keysLit_of dh_MODES, ?_, ?_⟩
        · exact (congrArg (PySem.W.nsIn K D_MODES) (show tx (En.nn (['l', 'a', 's', 't'] : En.Tx)) = "last" from by decide +kernel)).trans dk_MODES_last
        · rw [En.cnOf_eq (PySem.W.mg_of kin G af_last_alone)]; rfl
      · refine ⟨es_MODES, n_MODES, .ref f_as_bare, dl_MODES, hw ▸ He.keysLit_of dh_MODES, ?_, ?_⟩
        · exact (congrArg (PySem.W.nsIn K D_MODES) (show tx (En.nn (['b', 'a', 'r', 'e'] : En.Tx)) = "bare" from by decide +kernel)).trans dk_MODES_bare
        · rw [En.cnOf_eq (PySem.W.mg_of kin G af_as_bare)]; rfl
      · refine ⟨es_MODES, n_MODES, .ref f_in_capitals, dl_MODES, hw ▸ He.keysLit_of dh_MODES, ?_, ?_⟩
        · exact (congrArg (PySem.W.nsIn K D_MODES) (show tx (En.nn (['h', 'i', 'g', 'h'] : En.Tx)) = "high" from by decide +kernel)).trans dk_MODES_high
        · rw [En.cnOf_eq (PySem.W.mg_of kin G af_in_capitals)]; rfl⟩
    r_letters_in := raw_mk kin G af_letters_in lf_letters_in cf_letters_in kf_letters_in
    r_is_word := raw_mk kin G af_is_word lf_is_word cf_is_word kf_is_word
    r_letters_of := raw_mk kin G af_letters_of lf_letters_of cf_letters_of kf_letters_of
    r_bare := raw_mk kin G af_bare lf_bare cf_bare kf_bare
    r_in_full := raw_mk kin G af_in_full lf_in_full cf_in_full kf_in_full
    r_as_initials := raw_mk kin G af_as_initials lf_as_initials cf_as_initials kf_as_initials
    r_first_alone := raw_mk kin G af_first_alone lf_first_alone cf_first_alone kf_first_alone
    r_last_alone := raw_mk kin G af_last_alone lf_last_alone cf_last_alone kf_last_alone
    r_as_bare := raw_mk kin G af_as_bare lf_as_bare cf_as_bare kf_as_bare
    r_in_capitals := raw_mk kin G af_in_capitals lf_in_capitals cf_in_capitals kf_in_capitals
    r_mode_of := raw_mk kin G af_mode_of lf_mode_of cf_mode_of kf_mode_of
    r_law_cell := raw_mk kin G af_law_cell lf_law_cell cf_law_cell kf_law_cell
    r_law_box := raw_mk kin G af_law_box lf_law_box cf_law_box kf_law_box
    r_law_take := raw_mk kin G af_law_take lf_law_take cf_law_take kf_law_take
    r_law_drawn := raw_mk kin G af_law_drawn lf_law_drawn cf_law_drawn kf_law_drawn
    r_law_due := raw_mk kin G af_law_due lf_law_due cf_law_due kf_law_due
    r_law_refused := raw_mk kin G af_law_refused lf_law_refused cf_law_refused kf_law_refused
    r_law_bad := raw_mk kin G af_law_bad lf_law_bad cf_law_bad kf_law_bad
    r_law := raw_mk kin G af_law lf_law cf_law kf_law
    c_SMALL := ⟨_, PySem.W.mg_of kin G cc_SMALL⟩
    c_CAPITALS := ⟨_, PySem.W.mg_of kin G cc_CAPITALS⟩
    c_MARKS := ⟨_, PySem.W.mg_of kin G cc_MARKS⟩
    c_MOST_LETTERS := ⟨_, PySem.W.mg_of kin G cc_MOST_LETTERS⟩
    b_KeyError := PySem.W.mg_none_of kin G nb_KeyError
    b_isinstance := PySem.W.mg_none_of kin G nb_isinstance
    b_len := PySem.W.mg_none_of kin G nb_len
    b_list := PySem.W.mg_none_of kin G nb_list
    b_max := PySem.W.mg_none_of kin G nb_max
    b_min := PySem.W.mg_none_of kin G nb_min
    b_range := PySem.W.mg_none_of kin G nb_range
    b_repr := PySem.W.mg_none_of kin G nb_repr
    b_str := PySem.W.mg_none_of kin G nb_str
    b_tuple := PySem.W.mg_none_of kin G nb_tuple
    b_zip := PySem.W.mg_none_of kin G nb_zip
    g_CustomsError := PySem.W.mg_of kin G a_CustomsError
    g_Unknown := PySem.W.mg_of kin G a_Unknown
    g_NoWord := PySem.W.mg_of kin G a_NoWord
    g_NoMode := PySem.W.mg_of kin G a_NoMode
    x_NoWord := { cls := ⟨_, _, _, _, _, _, _, _, _, _, _, _, _, _, xl_NoWord⟩, gB := PySem.W.mg_of kin G a_CustomsError, sa := sa_NoWord, ga := ga_NoWord, gg := gg_NoWord, noN := nf_NoWord, iC := ic_NoWord, tI := ti_NoWord, kC := kc_NoWord, exC := ec_NoWord, tyC := tc_NoWord, hdC := hc_NoWord, rB := rb_CustomsError, sB := sb_CustomsError, iB := ib_CustomsError, fn := ⟨_, _, _, _, _, _, _, _, ⟨8, 17, 8, 21⟩, ⟨8, 23, 8, 28⟩, (fun n => match n with | 0 => ⟨9, 8, 9, 20⟩ | 1 => ⟨9, 8, 9, 29⟩ | 2 => ⟨9, 30, 9, 34⟩ | 3 => ⟨9, 36, 9, 45⟩ | 4 => ⟨9, 8, 9, 46⟩ | 5 => ⟨9, 8, 9, 46⟩ | 6 => ⟨10, 8, 10, 12⟩ | 7 => ⟨10, 8, 10, 18⟩ | 8 => ⟨10, 21, 10, 26⟩ | _ => ⟨10, 8, 10, 26⟩), 0, "no word", li_NoWord, ci_NoWord, ⟨_, fun env => rfl⟩⟩ }
    x_NoMode := { cls := ⟨_, _, _, _, _, _, _, _, _, _, _, _, _, _, xl_NoMode⟩, gB := PySem.W.mg_of kin G a_Unknown, sa := sa_NoMode, ga := ga_NoMode, gg := gg_NoMode, noN := nf_NoMode, iC := ic_NoMode, tI := ti_NoMode, kC := kc_NoMode, exC := ec_NoMode, tyC := tc_NoMode, hdC := hc_NoMode, rB := rb_Unknown, sB := sb_Unknown, iB := ib_Unknown, fn := ⟨_, _, _, _, _, _, _, _, ⟨13, 17, 13, 21⟩, ⟨13, 23, 13, 28⟩, (fun n => match n with | 0 => ⟨14, 8, 14, 15⟩ | 1 => ⟨14, 8, 14, 24⟩ | 2 => ⟨14, 25, 14, 29⟩ | 3 => ⟨14, 31, 14, 45⟩ | 4 => ⟨14, 8, 14, 46⟩ | 5 => ⟨14, 8, 14, 46⟩ | 6 => ⟨15, 8, 15, 12⟩ | 7 => ⟨15, 8, 15, 18⟩ | 8 => ⟨15, 21, 15, 26⟩ | _ => ⟨15, 8, 15, 26⟩), 0, "no such mode", li_NoMode, ci_NoMode, ⟨_, fun env => rfl⟩⟩ }
    e_NoWord_CustomsError := exm_mk hs_CustomsError hi_CustomsError ht_CustomsError es_NoWord_CustomsError
    e_NoWord_Unknown := exm_mk hs_Unknown hi_Unknown ht_Unknown es_NoWord_Unknown
    e_NoWord_NoMode := exm_mk hs_NoMode hi_NoMode ht_NoMode es_NoWord_NoMode
    e_NoMode_CustomsError := exm_mk hs_CustomsError hi_CustomsError ht_CustomsError es_NoMode_CustomsError
    e_NoMode_Unknown := exm_mk hs_Unknown hi_Unknown ht_Unknown es_NoMode_Unknown
    e_NoMode_NoMode := exm_mk hs_NoMode hi_NoMode ht_NoMode es_NoMode_NoMode
  }
theorem k_end {P : Program} {w : World} {K : PySem.W.Frag} {mg : Str → Option Value} {fa : Addr} {h : Heap} (_kin : K.In h) (T' : ∃ A0, Txt K mg A0 ∧ w.params = A0.pp) (hfa : mg "law" = some (.ref fa)) :
    ∃ fd : FuncData, (∀ (s : Shared) (u : Value), BindsTo s fd ⟨[u], []⟩ [("_law_script", u)]) ∧ ∀ base : Heap, K.In base → base.Ns mainGlobals mg → BaseM base → FnG P w K mg base 6 fa fd ["_law_script"] (spE (gk K mg) [false] m_law) := by
  obtain ⟨A0, T, hpp⟩ := T'
  refine law_end T.r_law hfa (fun _ _ _ _ _ _ us hl => match us, hl with | [_], _ => rfl) (fun base bm f fd F => ?_)
  have c_mode_of := ok_mode_of (P := P) (w := w) (base := base) T  hpp
  have c_l_cell := ok_l_cell (P := P) (w := w) (base := base) T 
  have c_l_box := ok_l_box (P := P) (w := w) (base := base) T 
  have c_l_take := ok_l_take (P := P) (w := w) (base := base) T 
  have c_l_drawn := ok_l_drawn (P := P) (w := w) (base := base) T c_l_take
  have c_in_full := ok_in_full (P := P) (w := w) (base := base) T 
  have c_letters_in := ok_letters_in (P := P) (w := w) (base := base) T 
  have c_is_word := ok_is_word (P := P) (w := w) (base := base) T c_letters_in
  have c_letters_of := ok_letters_of (P := P) (w := w) (base := base) T c_is_word c_letters_in
  have c_as_initials := ok_as_initials (P := P) (w := w) (base := base) T c_letters_of
  have c_first_alone := ok_first_alone (P := P) (w := w) (base := base) T 
  have c_last_alone := ok_last_alone (P := P) (w := w) (base := base) T 
  have c_bare := ok_bare (P := P) (w := w) (base := base) T c_letters_of
  have c_as_bare := ok_as_bare (P := P) (w := w) (base := base) T c_bare
  have c_in_capitals := ok_in_capitals (P := P) (w := w) (base := base) T 
  have c_l_due := ok_l_due (P := P) (w := w) (base := base) T 
  have c_l_bad := ok_l_bad (P := P) (w := w) (base := base) T c_l_take
  have c_mode_of_1 := ok_mode_of_1 (P := P) (w := w) (base := base) T  hpp
  have c_l_refused := ok_l_refused (P := P) (w := w) (base := base) bm T c_mode_of_1
  exact ok_law (P := P) (w := w) (base := base) T c_mode_of c_l_cell c_l_box c_l_take c_l_drawn c_in_full c_as_initials c_first_alone c_last_alone c_as_bare c_in_capitals c_l_due c_l_bad c_l_refused f fd F
noncomputable def sp_law (K : PySem.W.Frag) : Sp := fun vs H Q _ => ∃ (a : Addr) (ns : List Int), vs = [.ref a] ∧ SqL K H a (ns.map V.int) ∧ ns.length ≤ 63 ∧ ∀ H', Q (.bl true) H'
theorem law_start (K : PySem.W.Frag) (H : Hp) (a : Addr) (ns : List Int) (h1 : ns.length ≤ 63) (h2 : SqL K H a (ns.map V.int)) : sp_law K [.ref a] H (fun v _ => v = .bl true) fun _ _ _ => False := ⟨a, ns, rfl, h2, h1, fun _ => rfl⟩
theorem k_end' {P : Program} {w : World} {K : PySem.W.Frag} {mg : Str → Option Value} {fa : Addr} {h : Heap} (kin : K.In h) (T' : ∃ A0, Txt K mg A0 ∧ w.params = A0.pp) (hfa : mg "law" = some (.ref fa)) :
    ∃ fd : FuncData, (∀ (s : Shared) (u : Value), BindsTo s fd ⟨[u], []⟩ [("_law_script", u)]) ∧ ∀ base : Heap, K.In base → base.Ns mainGlobals mg → BaseM base → FnG P w K mg base 6 fa fd ["_law_script"] (sp_law K) := by
  obtain ⟨fd, h1, h2⟩ := k_end (P := P) (w := w) kin T' hfa
  refine ⟨fd, h1, fun base a b c => (h2 base a b c).imp ?_⟩
  rintro vs H Q E ⟨ad, ns, rfl, hs, hl, q⟩
  exact sp_script hs (law_true ns hl) q
end En.Z
open PySem PySem.W PyProof.Rows
set_option maxRecDepth 100000 in
set_option maxHeartbeats 0 in
theorem PySem.Challenge.cw_manycustoms_k40_modes_of_words_holds : PySem.Challenge.rw_manycustoms_k40_modes_of_words.Holds := by
  w_on; o_law; k_head; (case hw => w_witness2)
  k_fill
  refine Gk.walkGK (n := 63) (k := 6) (x := "_law_script") (l := PySem.Challenge.rw_manycustoms_k40_modes_of_words) (fun K => En.Z.sp_law K) rfl (by decide) rfl (by first | rfl | decide +kernel) ⟨rfl, by decide, by decide⟩ (fun w h Y => PySem.W.kIn_of Y) ?F ?S
  case F =>
    intro w mg fa h KX G hmg
    refine' En.Z.k_end' KX ⟨_, En.Z.txt_mk KX G (pp_ := w.params) ?a_CustomsError ?a_Unknown ?a_NoWord ?a_NoMode ?xl_NoWord ?sa_NoWord ?ga_NoWord ?gg_NoWord ?nf_NoWord ?ic_NoWord ?ti_NoWord ?li_NoWord ?ci_NoWord ?kc_NoWord ?ec_NoWord ?tc_NoWord ?hc_NoWord ?xl_NoMode ?sa_NoMode ?ga_NoMode ?gg_NoMode ?nf_NoMode ?ic_NoMode ?ti_NoMode ?li_NoMode ?ci_NoMode ?kc_NoMode ?ec_NoMode ?tc_NoMode ?hc_NoMode ?rb_CustomsError ?sb_CustomsError ?ib_CustomsError ?rb_Unknown ?sb_Unknown ?ib_Unknown ?hs_CustomsError ?hi_CustomsError ?ht_CustomsError ?es_NoWord_CustomsError ?es_NoMode_CustomsError ?hs_Unknown ?hi_Unknown ?ht_Unknown ?es_NoWord_Unknown ?es_NoMode_Unknown ?hs_NoMode ?hi_NoMode ?ht_NoMode ?es_NoWord_NoMode ?es_NoMode_NoMode ?af_letters_in ?lf_letters_in ?cf_letters_in ?kf_letters_in ?af_is_word ?lf_is_word ?cf_is_word ?kf_is_word ?af_letters_of ?lf_letters_of ?cf_letters_of ?kf_letters_of ?af_bare ?lf_bare ?cf_bare ?kf_bare ?af_in_full ?lf_in_full ?cf_in_full ?kf_in_full ?af_as_initials ?lf_as_initials ?cf_as_initials ?kf_as_initials ?af_first_alone ?lf_first_alone ?cf_first_alone ?kf_first_alone ?af_last_alone ?lf_last_alone ?cf_last_alone ?kf_last_alone ?af_as_bare ?lf_as_bare ?cf_as_bare ?kf_as_bare ?af_in_capitals ?lf_in_capitals ?cf_in_capitals ?kf_in_capitals ?af_mode_of ?lf_mode_of ?cf_mode_of ?kf_mode_of ?af_law_cell ?lf_law_cell ?cf_law_cell ?kf_law_cell ?af_law_box ?lf_law_box ?cf_law_box ?kf_law_box ?af_law_take ?lf_law_take ?cf_law_take ?kf_law_take ?af_law_drawn ?lf_law_drawn ?cf_law_drawn ?kf_law_drawn ?af_law_due ?lf_law_due ?cf_law_due ?kf_law_due ?af_law_refused ?lf_law_refused ?cf_law_refused ?kf_law_refused ?af_law_bad ?lf_law_bad ?cf_law_bad ?kf_law_bad ?af_law ?lf_law ?cf_law ?kf_law ?cc_SMALL ?cc_CAPITALS ?cc_MARKS ?cc_MOST_LETTERS ?ad_MODES ?dl_MODES ?dm_MODES ?dh_MODES ?dk_MODES_full ?dk_MODES_initials ?dk_MODES_first ?dk_MODES_last ?dk_MODES_bare ?dk_MODES_high ?nb_KeyError ?nb_isinstance ?nb_len ?nb_list ?nb_max ?nb_min ?nb_range ?nb_repr ?nb_str ?nb_tuple ?nb_zip, rfl⟩ hmg
    (case a_CustomsError => k_is)
    (case a_Unknown => k_is)
    (case a_NoWord => k_is)
    (case a_NoMode => k_is)
    (case xl_NoWord => k_is)
    (case sa_NoWord => k_is)
    (case ga_NoWord => k_is)
    (case gg_NoWord => k_is)
    (case nf_NoWord => k_is)
    (case ic_NoWord => k_is)
    (case ti_NoWord => k_is)
    (case li_NoWord => k_is)
    (case ci_NoWord => k_is)
    (case kc_NoWord => k_is)
    (case ec_NoWord => k_is)
    (case tc_NoWord => k_is)
    (case hc_NoWord => k_is)
    (case xl_NoMode => k_is)
    (case sa_NoMode => k_is)
    (case ga_NoMode => k_is)
    (case gg_NoMode => k_is)
    (case nf_NoMode => k_is)
    (case ic_NoMode => k_is)
    (case ti_NoMode => k_is)
    (case li_NoMode => k_is)
    (case ci_NoMode => k_is)
    (case kc_NoMode => k_is)
    (case ec_NoMode => k_is)
    (case tc_NoMode => k_is)
    (case hc_NoMode => k_is)
    (case rb_CustomsError => k_is)
    (case sb_CustomsError => k_is)
    (case ib_CustomsError => k_is)
    (case rb_Unknown => k_is)
    (case sb_Unknown => k_is)
    (case ib_Unknown => k_is)
    (case hs_CustomsError => k_is)
    (case hi_CustomsError => k_is)
    (case ht_CustomsError => k_is)
    (case es_NoWord_CustomsError => k_is)
    (case es_NoMode_CustomsError => k_is)
    (case hs_Unknown => k_is)
    (case hi_Unknown => k_is)
    (case ht_Unknown => k_is)
    (case es_NoWord_Unknown => k_is)
    (case es_NoMode_Unknown => k_is)
    (case hs_NoMode => k_is)
    (case hi_NoMode => k_is)
    (case ht_NoMode => k_is)
    (case es_NoWord_NoMode => k_is)
    (case es_NoMode_NoMode => k_is)
    (case af_letters_in => k_is)
    (case lf_letters_in => k_is)
    (case cf_letters_in => k_is)
    (case kf_letters_in => k_is)
    (case af_is_word => k_is)
    (case lf_is_word => k_is)
    (case cf_is_word => k_is)
    (case kf_is_word => k_is)
    (case af_letters_of => k_is)
    (case lf_letters_of => k_is)
    (case cf_letters_of => k_is)
    (case kf_letters_of => k_is)
    (case af_bare => k_is)
    (case lf_bare => k_is)
    (case cf_bare => k_is)
    (case kf_bare => k_is)
    (case af_in_full => k_is)
    (case lf_in_full => k_is)
    (case cf_in_full => k_is)
    (case kf_in_full => k_is)
    (case af_as_initials => k_is)
    (case lf_as_initials => k_is)
    (case cf_as_initials => k_is)
    (case kf_as_initials => k_is)
    (case af_first_alone => k_is)
    (case lf_first_alone => k_is)
    (case cf_first_alone => k_is)
    (case kf_first_alone => k_is)
    (case af_last_alone => k_is)
    (case lf_last_alone => k_is)
    (case cf_last_alone => k_is)
    (case kf_last_alone => k_is)
    (case af_as_bare => k_is)
    (case lf_as_bare => k_is)
    (case cf_as_bare => k_is)
    (case kf_as_bare => k_is)
    (case af_in_capitals => k_is)
    (case lf_in_capitals => k_is)
    (case cf_in_capitals => k_is)
    (case kf_in_capitals => k_is)
    (case af_mode_of => k_is)
    (case lf_mode_of => k_is)
    (case cf_mode_of => k_is)
    (case kf_mode_of => k_is)
    (case af_law_cell => k_is)
    (case lf_law_cell => k_is)
    (case cf_law_cell => k_is)
    (case kf_law_cell => k_is)
    (case af_law_box => k_is)
    (case lf_law_box => k_is)
    (case cf_law_box => k_is)
    (case kf_law_box => k_is)
    (case af_law_take => k_is)
    (case lf_law_take => k_is)
    (case cf_law_take => k_is)
    (case kf_law_take => k_is)
    (case af_law_drawn => k_is)
    (case lf_law_drawn => k_is)
    (case cf_law_drawn => k_is)
    (case kf_law_drawn => k_is)
    (case af_law_due => k_is)
    (case lf_law_due => k_is)
    (case cf_law_due => k_is)
    (case kf_law_due => k_is)
    (case af_law_refused => k_is)
    (case lf_law_refused => k_is)
    (case cf_law_refused => k_is)
    (case kf_law_refused => k_is)
    (case af_law_bad => k_is)
    (case lf_law_bad => k_is)
    (case cf_law_bad => k_is)
    (case kf_law_bad => k_is)
    (case af_law => k_is)
    (case lf_law => k_is)
    (case cf_law => k_is)
    (case kf_law => k_is)
    (case cc_SMALL => k_is)
    (case cc_CAPITALS => k_is)
    (case cc_MARKS => k_is)
    (case cc_MOST_LETTERS => k_is)
    (case ad_MODES => k_is)
    (case nb_KeyError => k_is)
    (case nb_isinstance => k_is)
    (case nb_len => k_is)
    (case nb_list => k_is)
    (case nb_max => k_is)
    (case nb_min => k_is)
    (case nb_range => k_is)
    (case nb_repr => k_is)
    (case nb_str => k_is)
    (case nb_tuple => k_is)
    (case nb_zip => k_is)
    (case dl_MODES => k_is)
    (case dk_MODES_full => k_is)
    (case dk_MODES_initials => k_is)
    (case dk_MODES_first => k_is)
    (case dk_MODES_last => k_is)
    (case dk_MODES_bare => k_is)
    (case dk_MODES_high => k_is)
    (case dh_MODES => first | kernel_rfl | rfl)
    (case dm_MODES => first | rfl | decide)
  case S =>
    intro K H a ns h1 h2
    exact En.Z.law_start K H a ns h1 h2
