import PyProof.Rows.All
import Wide.All
import OpenK.AllK
import Wide.FinOn
import HandS.ForMost
import HandS.ForExc
import HandS.TupAny
import HandS.Wide
import HandS.IsInst
import HandS.TryMany
import HandS.ExcOwn
import HandS.More
import HandS.Small
import HandS.ClsMeth
import KE.KExcInit
import HandS.ExcInit
import HandS.Codes
import HandS.ExcIs
import PySem.Challenge.RW_manycustoms_k02_letters_of_words
set_option Elab.async false
set_option linter.all false
set_option maxRecDepth 100000
set_option maxHeartbeats 1000000
namespace Gk
open PySem PySem.Spec PyProof.Rows L2
/-! trees: what a value stands for -/
inductive T where
  | non | bl (b : Bool) | int (i : Int) | str (s : Str)
  | lst (ts : List T) | tup (ts : List T) | dct (ks : List Key) (ts : List T)
  | ins (C : Addr) (fs : List Str) (ts : List T)
  | opq (v : V)
  | sqi (ns : List Int)
mutual
inductive Tr (K : PySem.W.Frag) (F : Hp) : V → T → Prop
  | non : Tr K F .non .non
  | bl (b : Bool) : Tr K F (.bl b) (.bl b)
  | int (i : Int) : Tr K F (.int i) (.int i)
  | str (s : Str) : Tr K F (.str s) (.str s)
  | opq (v : V) : Tr K F v (.opq v)
  | sqi {a : Addr} (ns : List Int) : SqL K F a (ns.map .int) → Tr K F (.ref a) (.sqi ns)
  | lst {a : Addr} {xs : List V} {ts : List T} : F a = some (.lst xs) → TrA K F xs ts → Tr K F (.ref a) (.lst ts)
  | tup {a : Addr} {xs : List V} {ts : List T} : SqT K F a xs → TrA K F xs ts → Tr K F (.ref a) (.tup ts)
  | dct {a : Addr} {kvs : List (Key × V)} {ks : List Key} {ts : List T} : F a = some (.dK kvs) → kvs.map (·.1) = ks → TrA K F (kvs.map (·.2)) ts → Tr K F (.ref a) (.dct ks ts)
  | ins {a C dx : Addr} {fs : List (Str × V)} {ns : List Str} {ts : List T} : F a = some (.ins C dx fs) → fs.map (·.1) = ns → TrA K F (fs.map (·.2)) ts → Tr K F (.ref a) (.ins C ns ts)
inductive TrA (K : PySem.W.Frag) (F : Hp) : List V → List T → Prop
  | nil : TrA K F [] []
  | cons {v : V} {vs : List V} {t : T} {ts : List T} : Tr K F v t → TrA K F vs ts → TrA K F (v :: vs) (t :: ts)
end
section
variable {K : PySem.W.Frag} {F F' H H' : Hp}
theorem same_seqT {a : Addr} {xs : List V} (e : Same F F') (h : SqT K F a xs) : SqT K F' a xs := by
  rcases h with h | h
  · rcases h with h | ⟨o, h⟩
    · exact .inl (.inl (e _ _ h))
    · exact .inl (.inr ⟨o, e _ _ h⟩)
  · exact .inr h
mutual
theorem Tr.mono (e : Same F F') : ∀ {v : V} {t : T}, Tr K F v t → Tr K F' v t
  | _, _, .non => .non
  | _, _, .bl b => .bl b
  | _, _, .int i => .int i
  | _, _, .str s => .str s
  | _, _, .opq v => .opq v
  | _, _, .sqi ns h => .sqi ns (e.seq h)
  | _, _, .lst h a => .lst (e _ _ h) (TrA.mono e a)
  | _, _, .tup h a => .tup (same_seqT e h) (TrA.mono e a)
  | _, _, .dct h k a => .dct (e _ _ h) k (TrA.mono e a)
  | _, _, .ins h k a => .ins (e _ _ h) k (TrA.mono e a)
theorem TrA.mono (e : Same F F') : ∀ {vs : List V} {ts : List T}, TrA K F vs ts → TrA K F' vs ts
  | _, _, .nil => .nil
  | _, _, .cons h a => .cons (Tr.mono e h) (TrA.mono e a)
end
theorem TrA.length : ∀ {vs : List V} {ts : List T}, TrA K F vs ts → vs.length = ts.length
  | _, _, .nil => rfl
  | _, _, .cons _ a => congrArg (· + 1) (TrA.length a)
theorem TrA.get : ∀ {vs : List V} {ts : List T} {i : Nat} {t : T}, TrA K F vs ts → ts[i]? = some t → ∃ v, vs[i]? = some v ∧ Tr K F v t
  | _, _, _, _, .nil, e => by simp at e
  | _, _, 0, _, .cons h _, e => by simp at e; subst e; exact ⟨_, rfl, h⟩
  | _, _, i + 1, _, .cons _ a, e => by
    obtain ⟨v, h1, h2⟩ := TrA.get (i := i) a (by simpa using e)
    exact ⟨v, by simpa using h1, h2⟩
theorem TrA.get' : ∀ {vs : List V} {ts : List T} {i : Nat} {v : V}, TrA K F vs ts → vs[i]? = some v → ∃ t, ts[i]? = some t ∧ Tr K F v t
  | _, _, _, _, .nil, e => by simp at e
  | _, _, 0, _, .cons h _, e => by simp at e; subst e; exact ⟨_, rfl, h⟩
  | _, _, i + 1, _, .cons _ a, e => by
    obtain ⟨v, h1, h2⟩ := TrA.get' (i := i) a (by simpa using e)
    exact ⟨v, by simpa using h1, h2⟩
theorem TrA.app : ∀ {vs ws : List V} {ts us : List T}, TrA K F vs ts → TrA K F ws us → TrA K F (vs ++ ws) (ts ++ us)
  | _, _, _, _, .nil, h => h
  | _, _, _, _, .cons h a, b => .cons h (TrA.app a b)
theorem TrA.take : ∀ {vs : List V} {ts : List T} (n : Nat), TrA K F vs ts → TrA K F (vs.take n) (ts.take n)
  | _, _, 0, _ => .nil
  | _, _, _ + 1, .nil => .nil
  | _, _, n + 1, .cons h a => .cons h (TrA.take n a)
theorem TrA.drop : ∀ {vs : List V} {ts : List T} (n : Nat), TrA K F vs ts → TrA K F (vs.drop n) (ts.drop n)
  | _, _, 0, h => h
  | _, _, _ + 1, .nil => .nil
  | _, _, n + 1, .cons _ a => TrA.drop n a
theorem TrA.set {v : V} {t : T} (h : Tr K F v t) : ∀ {vs : List V} {ts : List T} (n : Nat), TrA K F vs ts → TrA K F (vs.set n v) (ts.set n t)
  | _, _, _, .nil => .nil
  | _, _, 0, .cons _ a => .cons h a
  | _, _, n + 1, .cons g a => .cons g (TrA.set h n a)
theorem TrA.rev {vs : List V} {ts : List T} (h : TrA K F vs ts) : TrA K F vs.reverse ts.reverse := by
  induction vs generalizing ts with
  | nil => cases h; exact .nil
  | cons v vs ih =>
    cases h with
    | cons h a =>
      simp only [List.reverse_cons]
      exact (ih a).app (.cons h .nil)
/-- a leaf's value -/
def leaf : T → Option V
  | .non => some .non
  | .bl b => some (.bl b)
  | .int i => some (.int i)
  | .str s => some (.str s)
  | .opq v => some v
  | _ => none
theorem Tr.leaf_eq {v w : V} {t : T} (h : Tr K F v t) (e : leaf t = some w) : v = w := by
  cases h <;> simp [leaf] at e <;> exact e
theorem Tr.of_leaf {w : V} : ∀ {t : T}, leaf t = some w → Tr K F w t
  | .non, e => by simp [leaf] at e; subst e; exact .non
  | .bl b, e => by simp [leaf] at e; subst e; exact .bl b
  | .int b, e => by simp [leaf] at e; subst e; exact .int b
  | .str b, e => by simp [leaf] at e; subst e; exact .str b
  | .opq b, e => by simp [leaf] at e; subst e; exact .opq b
  | .sqi _, e => by simp [leaf] at e
  | .lst _, e => by simp [leaf] at e
  | .tup _, e => by simp [leaf] at e
  | .dct _ _, e => by simp [leaf] at e
  | .ins _ _ _, e => by simp [leaf] at e
theorem TrA.strs : ∀ {ss : List Str} {vs : List V}, TrA K F vs (ss.map .str) → vs = ss.map .str
  | [], _, .nil => rfl
  | _ :: _, _, .cons h a => by rw [TrA.strs a]; cases h; rfl
theorem TrA.ints : ∀ {ss : List Int} {vs : List V}, TrA K F vs (ss.map .int) → vs = ss.map .int
  | [], _, .nil => rfl
  | _ :: _, _, .cons h a => by rw [TrA.ints a]; cases h; rfl
theorem TrA.bls : ∀ {ss : List Bool} {vs : List V}, TrA K F vs (ss.map .bl) → vs = ss.map .bl
  | [], _, .nil => rfl
  | _ :: _, _, .cons h a => by rw [TrA.bls a]; cases h; rfl
theorem TrA.of_strs : ∀ {ss : List Str}, TrA K F (ss.map .str) (ss.map .str)
  | [] => .nil
  | s :: _ => .cons (.str s) TrA.of_strs
theorem TrA.of_ints : ∀ {ss : List Int}, TrA K F (ss.map .int) (ss.map .int)
  | [] => .nil
  | s :: _ => .cons (.int s) TrA.of_ints
theorem TrA.of_bls : ∀ {ss : List Bool}, TrA K F (ss.map .bl) (ss.map .bl)
  | [] => .nil
  | s :: _ => .cons (.bl s) TrA.of_bls
end
/-! the state: cells L that are ours to change, trees R that stand -/
abbrev Cell := Addr × HO
structure S (K : PySem.W.Frag) (H : Hp) (L : List Cell) (R : List (List V × List T)) : Prop where
  ex : ∃ F : Hp, Same F H ∧ (∀ c ∈ L, H c.1 = some c.2 ∧ F c.1 = none) ∧ (L.map (·.1)).Nodup ∧ ∀ r ∈ R, TrA K F r.1 r.2
section
variable {K : PySem.W.Frag} {H : Hp} {L L1 L2 : List Cell} {R R1 : List (List V × List T)} {p a : Addr} {o o' : HO}
theorem S.start : S K H [] [] := ⟨⟨fun _ => none, fun _ _ e => (nomatch e), fun _ h => (nomatch h), List.nodup_nil, fun _ h => (nomatch h)⟩⟩
/-- a new object -/
theorem S.new (s : S K H L R) (n : H p = none) (o : HO) : S K (upd H p o) ((p, o) :: L) R := by
  obtain ⟨F, sm, ce, nd, tr⟩ := s
  have fp : F p = none := sm.free n
  refine ⟨F, fun b u e => ?_, fun c hc => ?_, ?_, tr⟩
  · rw [upd_ne (ne_of_none (sm b u e) n)]; exact sm b u e
  · rcases List.mem_cons.mp hc with rfl | hc
    · exact ⟨upd_same, fp⟩
    · obtain ⟨h1, h2⟩ := ce c hc
      exact ⟨by rw [upd_ne (ne_of_none h1 n)]; exact h1, h2⟩
  · rw [List.map_cons, List.nodup_cons]
    refine ⟨fun hm => ?_, nd⟩
    obtain ⟨c, hc, e⟩ := List.mem_map.mp hm
    have := (ce c hc).1
    rw [e] at this
    have n' : H p = none := n
    rw [n'] at this; cases this
/-- untracked new objects beside -/
theorem S.other (s : S K H L R) (n : H p = none) (o : HO) : S K (upd H p o) L R := by
  obtain ⟨F, sm, ce, nd, tr⟩ := s.new n o
  exact ⟨F, sm, fun c hc => ce c (List.mem_cons_of_mem _ hc), (List.nodup_cons.mp nd).2, tr⟩
theorem S.cell (s : S K H ((a, o) :: L) R) : H a = some o := by
  obtain ⟨F, sm, ce, nd, tr⟩ := s
  exact (ce _ List.mem_cons_self).1
theorem S.cell_mem (s : S K H L R) (m : (a, o) ∈ L) : H a = some o := by
  obtain ⟨F, sm, ce, nd, tr⟩ := s
  exact (ce _ m).1
theorem S.sub (s : S K H L R) (h : L1.Sublist L) : S K H L1 R := by
  obtain ⟨F, sm, ce, nd, tr⟩ := s
  exact ⟨F, sm, fun c hc => ce c (h.subset hc), (h.map _).nodup nd, tr⟩
theorem S.perm (s : S K H L R) (h : L1.Perm L) : S K H L1 R := by
  obtain ⟨F, sm, ce, nd, tr⟩ := s
  exact ⟨F, sm, fun c hc => ce c (h.subset hc), (h.map (·.1)).nodup_iff.mpr nd, tr⟩
theorem S.drop (s : S K H ((a, o) :: L) R) : S K H L R := s.sub (List.sublist_cons_self _ _)
theorem S.trs (s : S K H L R) (h : ∀ r ∈ R1, r ∈ R) : S K H L R1 := by
  obtain ⟨F, sm, ce, nd, tr⟩ := s
  exact ⟨F, sm, ce, nd, fun r hr => tr r (h r hr)⟩
theorem S.tl {r : List V × List T} (s : S K H L (r :: R)) : S K H L R := s.trs fun _ h => List.mem_cons_of_mem _ h
/-- our cell changed -/
theorem S.put (s : S K H ((a, o) :: L) R) (o' : HO) : S K (upd H a o') ((a, o') :: L) R := by
  obtain ⟨F, sm, ce, nd, tr⟩ := s
  have fa : F a = none := (ce _ List.mem_cons_self).2
  rw [List.map_cons, List.nodup_cons] at nd
  refine ⟨F, fun b u e => ?_, fun c hc => ?_, by rw [List.map_cons, List.nodup_cons]; exact nd, tr⟩
  · have hb : b ≠ a := fun z => by rw [z, fa] at e; cases e
    rw [upd_ne hb]; exact sm b u e
  · rcases List.mem_cons.mp hc with rfl | hc
    · exact ⟨upd_same, fa⟩
    · obtain ⟨h1, h2⟩ := ce c (List.mem_cons_of_mem _ hc)
      refine ⟨?_, h2⟩
      have hb : c.1 ≠ a := fun z => nd.1 (List.mem_map.mpr ⟨c, hc, z⟩)
      rw [upd_ne hb]; exact h1
/-- rotations: the k-th cell to the front, and back -/
theorem S.f1 {c0 c1 : Cell} (s : S K H (c0 :: c1 :: L) R) : S K H (c1 :: c0 :: L) R := s.perm (.swap _ _ _)
theorem S.mid {c : Cell} (s : S K H (L1 ++ c :: L) R) : S K H (c :: (L1 ++ L)) R := s.perm List.perm_middle.symm
theorem S.unmid {c : Cell} (s : S K H (c :: (L1 ++ L)) R) : S K H (L1 ++ c :: L) R := s.perm List.perm_middle
/-- a cell let stand: a tree from now on -/
theorem S.frzL {xs : List V} {ts : List T} (s : S K H ((p, .lst xs) :: L) R) (h : (xs, ts) ∈ R) : S K H L (([.ref p], [.lst ts]) :: R) := by
  obtain ⟨F, sm, ce, nd, tr⟩ := s
  obtain ⟨hp, fp⟩ := ce _ List.mem_cons_self
  rw [List.map_cons, List.nodup_cons] at nd
  have sF : Same F (upd F p (.lst xs)) := fun b u e => by
    rw [upd_ne (ne_of_none e fp)]; exact e
  refine ⟨upd F p (.lst xs), fun b u e => ?_, fun c hc => ?_, nd.2, fun r hr => ?_⟩
  · by_cases hb : b = p
    · subst hb; rw [upd_same] at e; cases e; exact hp
    · rw [upd_ne hb] at e; exact sm b u e
  · obtain ⟨h1, h2⟩ := ce c (List.mem_cons_of_mem _ hc)
    refine ⟨h1, ?_⟩
    have hb : c.1 ≠ p := fun z => nd.1 (List.mem_map.mpr ⟨c, hc, z⟩)
    rw [upd_ne hb]; exact h2
  · rcases List.mem_cons.mp hr with rfl | hr
    · exact .cons (.lst upd_same ((tr _ h).mono sF)) .nil
    · exact (tr r hr).mono sF
theorem S.frzT {xs : List V} {ts : List T} (s : S K H ((p, .tup xs) :: L) R) (h : (xs, ts) ∈ R) : S K H L (([.ref p], [.tup ts]) :: R) := by
  obtain ⟨F, sm, ce, nd, tr⟩ := s
  obtain ⟨hp, fp⟩ := ce _ List.mem_cons_self
  rw [List.map_cons, List.nodup_cons] at nd
  have sF : Same F (upd F p (.tup xs)) := fun b u e => by
    rw [upd_ne (ne_of_none e fp)]; exact e
  refine ⟨upd F p (.tup xs), fun b u e => ?_, fun c hc => ?_, nd.2, fun r hr => ?_⟩
  · by_cases hb : b = p
    · subst hb; rw [upd_same] at e; cases e; exact hp
    · rw [upd_ne hb] at e; exact sm b u e
  · obtain ⟨h1, h2⟩ := ce c (List.mem_cons_of_mem _ hc)
    refine ⟨h1, ?_⟩
    have hb : c.1 ≠ p := fun z => nd.1 (List.mem_map.mpr ⟨c, hc, z⟩)
    rw [upd_ne hb]; exact h2
  · rcases List.mem_cons.mp hr with rfl | hr
    · exact .cons (.tup (.of upd_same) ((tr _ h).mono sF)) .nil
    · exact (tr r hr).mono sF
/-- any cell frozen, opaque: nothing is told of it -/
theorem S.add {vs : List V} {ts : List T} (s : S K H L R) (h : ∀ F : Hp, (∀ r ∈ R, TrA K F r.1 r.2) → TrA K F vs ts) : S K H L ((vs, ts) :: R) := by
  obtain ⟨F, sm, ce, nd, tr⟩ := s
  refine ⟨F, sm, ce, nd, fun r hr => ?_⟩
  rcases List.mem_cons.mp hr with rfl | hr
  · exact h F tr
  · exact tr r hr
/-- what a tree tells of the heap -/
theorem S.lstOf {ts : List T} (s : S K H L R) (h : ([V.ref a], [T.lst ts]) ∈ R) : ∃ xs, H a = some (.lst xs) ∧ S K H L ((xs, ts) :: R) ∧ xs.length = ts.length := by
  obtain ⟨F, sm, ce, nd, tr⟩ := s
  cases tr _ h with
  | cons q _ =>
    cases q with
    | lst hs ha =>
      refine ⟨_, sm _ _ hs, ⟨F, sm, ce, nd, fun r hr => ?_⟩, ha.length⟩
      rcases List.mem_cons.mp hr with rfl | hr
      · exact ha
      · exact tr r hr
theorem S.tupOf {ts : List T} (s : S K H L R) (h : ([V.ref a], [T.tup ts]) ∈ R) : ∃ xs, SqT K H a xs ∧ S K H L ((xs, ts) :: R) ∧ xs.length = ts.length := by
  obtain ⟨F, sm, ce, nd, tr⟩ := s
  cases tr _ h with
  | cons q _ =>
    cases q with
    | tup hs ha =>
      refine ⟨_, same_seqT sm hs, ⟨F, sm, ce, nd, fun r hr => ?_⟩, ha.length⟩
      rcases List.mem_cons.mp hr with rfl | hr
      · exact ha
      · exact tr r hr
theorem S.strsOf {ss : List Str} (s : S K H L R) (h : ([V.ref a], [T.lst (ss.map .str)]) ∈ R) : H a = some (.lst (ss.map .str)) := by
  obtain ⟨F, sm, ce, nd, tr⟩ := s
  cases tr _ h with
  | cons q _ =>
    cases q with
    | lst hs ha => rw [ha.strs] at hs; exact sm _ _ hs
theorem S.strsOfT {ss : List Str} (s : S K H L R) (h : ([V.ref a], [T.tup (ss.map .str)]) ∈ R) : SqT K H a (ss.map .str) := by
  obtain ⟨F, sm, ce, nd, tr⟩ := s
  cases tr _ h with
  | cons q _ =>
    cases q with
    | tup hs ha => rw [ha.strs] at hs; exact same_seqT sm hs
theorem S.intsOf {ss : List Int} (s : S K H L R) (h : ([V.ref a], [T.sqi ss]) ∈ R) : SqL K H a (ss.map .int) := by
  obtain ⟨F, sm, ce, nd, tr⟩ := s
  cases tr _ h with
  | cons q _ =>
    cases q with
    | sqi _ hs => exact sm.seq hs
/-- an item of what is told of a list of values -/
theorem S.item {vs : List V} {ts : List T} {i : Nat} {t : T} (s : S K H L R) (h : (vs, ts) ∈ R) (e : ts[i]? = some t) : ∃ v, vs[i]? = some v ∧ S K H L (([v], [t]) :: R) := by
  obtain ⟨F, sm, ce, nd, tr⟩ := s
  obtain ⟨v, h1, h2⟩ := (tr _ h).get e
  refine ⟨v, h1, F, sm, ce, nd, fun r hr => ?_⟩
  rcases List.mem_cons.mp hr with rfl | hr
  · exact .cons h2 .nil
  · exact tr r hr
end
end Gk

set_option maxRecDepth 100000
set_option maxHeartbeats 1000000
namespace Gk
open PySem PySem.Spec PyProof.Rows L2
/-! defs whose surroundings hold no guard (repr of lists wants to know it); all of them may raise -/
structure Rm (k : Nat) (A : Around) : Prop where
  g : A.guards = some []
  r : Room k A
theorem Rm.mono {j k : Nat} {A : Around} (h : Rm k A) (l : j ≤ k) : Rm j A := ⟨h.g, h.r.mono l⟩
structure FnG (P : Program) (w : World) (K : PySem.W.Frag) (mg : Str → Option Value) (base : Heap) (k : Nat) (f : Addr) (fd : FuncData) (ps : List Str) (sp : Sp) : Prop where
  len : ∀ vs H Q E, sp vs H Q E → vs.length = ps.length
  run : ∀ (A : Around) (out : List Env) (s : Shared) (H : Hp) (ar : Args) (us : List Value) (vs : List V) (Q : VK) (E : XK),
    Rm k A → Env0 P w K mg base A out s H → BindsTo s fd ar (ps.zip us) → Vals vs us → sp vs H Q E →
      codeAny (model P w) A (.call (.ref f) ar) (CR (L2.CX P w) out P w H s Q E) s
section
variable {P : Program} {w : World} {K : PySem.W.Frag} {mg : Str → Option Value} {base : Heap} {j k : Nat} {f : Addr} {fd : FuncData} {ps : List Str} {sp sp' : Sp}
theorem FnG.mono (F : FnG P w K mg base j f fd ps sp) (h : j ≤ k) : FnG P w K mg base k f fd ps sp :=
  ⟨F.len, fun A o s H a us vs Q E rm => F.run A o s H a us vs Q E (rm.mono h)⟩
theorem FnG.imp (F : FnG P w K mg base k f fd ps sp) (h : ∀ vs H Q E, sp' vs H Q E → sp vs H Q E) : FnG P w K mg base k f fd ps sp' :=
  ⟨fun vs H Q E q => F.len vs H Q E (h _ _ _ _ q), fun A o s H a us vs Q E rm e b v q => F.run A o s H a us vs Q E rm e b v (h _ _ _ _ q)⟩
/-- the context of a def's body -/
abbrev cxG (P : Program) (w : World) (K : PySem.W.Frag) (mg : Str → Option Value) (base : Heap) (N : List Str) (qual : Str) (scope : Scope) (f : Addr) (cd : Value) (A : Around) (out : List Env) (s : Shared) (H : Hp) (E : XK) : Cx :=
  cxOf (L2.CX P w) P w K mg base N qual scope f cd A out s H E
theorem Fun.okG {x qual : Str} {st : Stmt} {N : List Str} (F : L2.Fun K x qual st f fd) (S : FnScope N ps (defScope st)) (len : ∀ vs H Q E, sp vs H Q E → vs.length = ps.length)
    (hb : ∀ (cd : Value) (A : Around) (out : List Env) (s : Shared) (H : Hp) (vs : List V) (Q : VK) (E : XK), Rm k (A.deeper (envOfC qual (defScope st) s.heap.objs.size f cd)) → sp vs H Q E →
      ∃ t, PSs (cxG P w K mg base N qual (defScope st) f cd A out s H E) (defBody st) t ∧ t { nx := fun _ H' => Q .non H', rt := Q } (start N vs) H) :
    FnG P w K mg base (k + 1) f fd ps sp := by
  obtain ⟨oc, od, kV, dc, pm, an, cd, ct, osl, e0, lk, hc⟩ := F.ex
  subst e0
  constructor
  · exact len
  intro A out s H ar us vs Q E rm e b rv hs
  have there : K.In s.heap := e.mod.kin.keeps (fun b' o' z => (e.bs b' o' z).1)
  have nolim : s.heap.NoLimit := e.mod.nolimit.keeps (fun b' o' z => (e.bs b' o' z).1)
  have nms : ∀ y ∈ ps.zip us, (defScope st).names.lookup y.1 = some .local ∨ ((defScope st).names.lookup y.1 = some .cell ∧ ((cellsFrom (s.heap.objs.size + 1) (defScope st).names []).lookup y.1).isSome = true) := by
    rintro ⟨n, v⟩ hy
    cases S.par n (List.of_mem_zip hy).1 with
    | inl q => exact Or.inl q
    | inr q => exact Or.inr ⟨q, PySem.W.cellsFrom_some _ _ _ (Or.inl q)⟩
  refine codeAny_call_function rm.r.depth (there _ _ lk) rfl S.co S.gen rfl (PySem.W.codeRec_of there hc) (b _ _ _ _ ?_)
  refine wpAny_newFunctionEnv_cells S.kind nms fun env ee s1 ic => ?_
  subst ee
  refine ⟨nolim.keeps ic.toInCall.keep, codeAny_func ?_⟩
  obtain ⟨t, pt, q⟩ := hb cd A out s H vs Q E ⟨rm.g, rm.r.deeper _⟩ hs
  have I : Inv (cxG P w K mg base N qual (defScope st) f cd A out s H E) [] (start N vs) H s1 := inv_start S rm.r.hd e (len _ _ _ _ hs) rv ic
  refine wpAny_mono (pt.run [] s1 (start N vs) H _ I q) (fun fl s' hf => ?_) (fun e' s' h' => h')
  have fin : ∀ {σ' : L2.St} {H' : Hp} {v : V} {u : Value}, Inv (cxG P w K mg base N qual (defScope st) f cd A out s H E) [] σ' H' s' → RelV v u → Q v H' → CE out P w H s Q u s' := by
    intro σ' H' v u J r' q'
    exact ⟨v, H', J.os, J.bare, J.base, J.hok, r', q'⟩
  cases fl with
  | next =>
    obtain ⟨σ', H', J, q'⟩ := hf
    exact fin (v := .non) (u := .none) J rfl q'
  | ret u =>
    obtain ⟨v, σ', H', J, r', q'⟩ := hf
    exact fin J r' q'
  | brk => obtain ⟨_, _, _, z⟩ := hf; exact z.elim
  | cont => obtain ⟨_, _, _, z⟩ := hf; exact z.elim
end
/-! calls; W: what is wanted of exceptions -/
section
variable {X : Cx} {k : Nat} {f C : Addr} {fd : FuncData} {ps ks : List Str} {sp : Sp} {dvs : List V} {ds : List Value} {W : WX} {x m : Str} {p pos apos : Pos} {e o : Expr} {es : List Expr} {kws : List Keyword} {ta : TE} {t tk' : TA}
abbrev FnX (X : Cx) (k : Nat) (f : Addr) (fd : FuncData) (ps : List Str) (sp : Sp) : Prop := FnG X.prog X.w X.K X.mg X.base k f fd ps sp
theorem run_g {pins : List (Addr × Obj)} {σ : L2.St} {H : Hp} {s : Shared} {Q : VK} {E : XK} {ar : Args} {us : List Value} {vs : List V} (F : FnX X k f fd ps sp) (rm : Rm k X.A) (tk : Takes X W) (b : BindsTo s fd ar (ps.zip us))
    (hE : ∀ c d H', E c d H' → W c d σ H') (I : Inv X pins σ H s) (r : Vals vs us) (h : sp vs H Q E) :
    codeAny (model X.prog X.w) X.A (.call (.ref f) ar) (fun r s' => match r with
      | .ok (.ret u) => EP X pins σ Q u s'
      | .ok _ => False
      | .error e => X.xe e s') s := by
  refine codeAny_mono (F.run X.A X.stack s H ar us vs Q E rm I.env0 b r h) fun r s' q => ?_
  rcases r with e' | fl
  · exact tk e' s' (XE.of_call I hE q)
  · rcases fl with _ | _ | _ | u
    · exact False.elim q
    · exact False.elim q
    · exact False.elim q
    · exact I.after q
/-- f(..): the written arguments, then the defaults -/
def tG (sp : Sp) (dvs : List V) (W : WX) (t : TA) : TE := fun σ H Q => t σ H fun vs H1 => sp (vs ++ dvs) H1 Q (fun c d H' => W c d σ H')
theorem run_gp {pins : List (Addr × Obj)} {σ : L2.St} {H : Hp} {s : Shared} {Q : VK} {us : List Value} {vs : List V} (F : FnX X k f fd ps sp) (rm : Rm k X.A) (tk : Takes X W) (hb : L2.Binds X.K fd ps ds) (hd : Vals dvs ds)
    (I : Inv X pins σ H s) (r : Vals vs us) (h : sp (vs ++ dvs) H Q (fun c d H' => W c d σ H')) : wpAny (model X.prog X.w) X.A (call (.ref f) us) (EP X pins σ Q) X.xe s := by
  have r2 : Vals (vs ++ dvs) (us ++ ds) := r.append hd
  have hl : (us ++ ds).length = ps.length := r2.length.symm.trans (F.len _ _ _ _ h)
  refine wpAny_call (codeAny_mono (run_g F rm tk (hb s us I.kIn hl) (fun _ _ _ z => z) I r2 h) fun r s' q => ?_)
  rcases r with e' | fl
  · exact q
  · rcases fl with _ | _ | _ | u
    · exact False.elim q
    · exact False.elim q
    · exact False.elim q
    · exact q
theorem pe_g (F : FnX X k f fd ps sp) (rm : Rm k X.A) (tk : Takes X W) (hm : X.mg x = some (.ref f)) (kp : PySem.W.keepIn X.K (.ref f) = true) (hb : L2.Binds X.K fd ps ds) (hd : Vals dvs ds) (ha : PA X (e :: es) t)
    (hg : Gl X x := by rfl) (hdb : (x == ("__debug__" : Str)) = false := by decide) (he : starEach (e :: es) X.env = (false, eval e X.env) :: starEach es X.env := by rfl) (hpl : (backTo pos (starEach es X.env)).any (·.1) = false := by rfl) :
    PE X (.Call (.Name x p) (e :: es) [] pos) (tG sp dvs W t) := by
  constructor
  intro pins s σ H Q I h
  refine wpAny_Call_Name_kw (ld_glob I hg hm ?_ hdb)
  refine PySem.W.callWith_K (h₀ := X.base) I.ok.mod.kin kp (thn (ha.run pos pins s σ H _ I h) ?_) he hpl
  rintro us s1 ⟨vs, H1, I1, r, q⟩
  exact ⟨I1.kIn, run_gp F rm tk hb hd I1 r q⟩
theorem pe_g0 (F : FnX X k f fd ps sp) (rm : Rm k X.A) (tk : Takes X W) (hm : X.mg x = some (.ref f)) (kp : PySem.W.keepIn X.K (.ref f) = true) (hb : L2.Binds X.K fd ps ds) (hd : Vals dvs ds)
    (hg : Gl X x := by rfl) (hdb : (x == ("__debug__" : Str)) = false := by decide) : PE X (.Call (.Name x p) [] [] pos) (tG sp dvs W tNil) := by
  constructor
  intro pins s σ H Q I h
  refine wpAny_Call_Name_kw (ld_glob I hg hm ?_ hdb)
  exact PySem.W.callWith_K0 I.kIn kp (run_gp (us := []) F rm tk hb hd I .nil h)
/-- o.m(..) of an instance of the class at C -/
def tGm (C : Addr) (m : Str) (sp : Sp) (dvs : List V) (W : WX) (ta : TE) (t : TA) : TE := fun σ H Q => ta σ H fun x H1 => ∃ a dx fs, x = .ref a ∧ H1 a = some (.ins C dx fs) ∧ fs.lookup m = none ∧
  t σ H1 fun vs H2 => sp (x :: (vs ++ dvs)) H2 Q (fun c d H' => W c d σ H')
theorem pe_gm {pl : Sem Bool} (he : PE X o ta) (c : Cls X.K C) (hm : Meth X.K C m f) (F : FnX X k f fd ps sp) (rm : Rm k X.A) (tk : Takes X W) (hb : L2.Binds X.K fd ps ds) (hd : Vals dvs ds) (ha : PA X (e :: es) t)
    (h1 : starEach (e :: es) X.env = (false, eval e X.env) :: starEach es X.env := by rfl) (h2 : (backTo pos (starEach es X.env)).any (·.1) = false := by rfl)
    (h3 : eval (.Call (.Attribute o m apos) (e :: es) [] pos) X.env = (do
      let ov ← eval o X.env; standAt apos.atName
      let (f, first) ← holding [ov] (getMethod ov m pl); callWith pos f first (backTo pos (starEach (e :: es) X.env)) (backToKw pos (keywordEach [] X.env))) := by rfl) :
    PE X (.Call (.Attribute o m apos) (e :: es) [] pos) (tGm C m sp dvs W ta t) := by
  constructor
  intro pins s σ H Q I h
  refine PySem.W.methodCall_KW (pl := pl) (thn (he.run pins s σ H _ I h) ?_) h3
  rintro u s1 ⟨x, H1, I1, rx, a, dx, fs, rfl, ea, l, q⟩
  obtain rfl : u = Value.ref a := rx
  refine getmeth_ok I1 ea c hm l ?_
  refine PySem.W.callWith_K (first := [.ref a]) (h₀ := X.base) I.ok.mod.kin hm.kp (thn (ha.run pos pins s1 σ H1 _ I1 q) ?_) h1 h2
  rintro us s2 ⟨vs, H2, I2, r, q2⟩
  exact ⟨I2.kIn, run_gp (us := .ref a :: us) (vs := .ref a :: vs) F rm tk hb hd I2 (.cons rfl r) q2⟩
theorem pe_gm0 {pl : Sem Bool} (he : PE X o ta) (c : Cls X.K C) (hm : Meth X.K C m f) (F : FnX X k f fd ps sp) (rm : Rm k X.A) (tk : Takes X W) (hb : L2.Binds X.K fd ps ds) (hd : Vals dvs ds)
    (h3 : eval (.Call (.Attribute o m apos) [] [] pos) X.env = (do
      let ov ← eval o X.env; standAt apos.atName
      let (f, first) ← holding [ov] (getMethod ov m pl); callWith pos f first (backTo pos (starEach [] X.env)) (backToKw pos (keywordEach [] X.env))) := by rfl) :
    PE X (.Call (.Attribute o m apos) [] [] pos) (tGm C m sp dvs W ta tNil) := by
  constructor
  intro pins s σ H Q I h
  refine PySem.W.methodCall_KW (pl := pl) (thn (he.run pins s σ H _ I h) ?_) h3
  rintro u s1 ⟨x, H1, I1, rx, a, dx, fs, rfl, ea, l, q⟩
  obtain rfl : u = Value.ref a := rx
  refine getmeth_ok I1 ea c hm l ?_
  exact PySem.W.callWith_K0 (first := [.ref a]) I1.kIn hm.kp (run_gp (us := [.ref a]) (vs := [.ref a]) F rm tk hb hd I1 (.cons rfl .nil) q)
/-- C(..): a new instance, then __init__ -/
def tGmk (C : Addr) (sp : Sp) (dvs : List V) (W : WX) (t : TA) : TE := fun σ H Q => t σ H fun vs H1 => ∀ x dx, H1 x = none → H1 dx = none → dx ≠ x →
  sp (.ref x :: (vs ++ dvs)) (upd (upd H1 dx (.own x)) x (.ins C dx [])) (fun v H2 => v = .non ∧ Q (.ref x) H2) (fun c d H' => W c d σ H')
theorem run_gmk {pins : List (Addr × Obj)} {σ : L2.St} {H : Hp} {s : Shared} {Q : VK} {us : List Value} {vs : List V} (M : Mk X.K C f) (F : FnX X k f fd ps sp) (rm : Rm (k + 1) X.A) (tk : Takes X W) (hb : L2.Binds X.K fd ps ds) (hd : Vals dvs ds)
    (I : Inv X pins σ H s) (r : Vals vs us)
    (h : ∀ x dx, H x = none → H dx = none → dx ≠ x → sp (.ref x :: (vs ++ dvs)) (upd (upd H dx (.own x)) x (.ins C dx [])) (fun v H2 => v = .non ∧ Q (.ref x) H2) (fun c d H' => W c d σ H')) :
    wpAny (model X.prog X.w) X.A (call (.ref C) us) (EP X pins σ Q) X.xe s := by
  have h' := h (s.heap.objs.size + 1) s.heap.objs.size (I.hok.fresh (Nat.le_add_right _ 1)) (I.hok.fresh (Nat.le.refl)) (Nat.ne_of_lt Nat.le.refl)
  have J := Inv.made (C := C) I
  have rr : Vals (V.ref (s.heap.objs.size + 1) :: (vs ++ dvs)) (Value.ref (s.heap.objs.size + 1) :: (us ++ ds)) := .cons rfl (r.append hd)
  have ll : (Value.ref (s.heap.objs.size + 1) :: us ++ ds).length = ps.length := rr.length.symm.trans (F.len _ _ _ _ h')
  have e0 := J.env0.make C us []
  refine wpAny_call (make_map (f := f) I.kIn M.makes M.init (beq_iff_eq.mp M.fn) ?_)
  refine codeAny_mono (F.run _ X.stack _ _ ⟨Value.ref (s.heap.objs.size + 1) :: us, []⟩ _ _ _ _ ⟨rm.g, rm.r.make C us []⟩ e0 (hb _ (Value.ref (s.heap.objs.size + 1) :: us) J.kIn ll) rr h') fun r s' q => ?_
  rcases r with e' | fl
  · exact tk e' s' (XE.of_call J (fun _ _ _ z => z) q)
  · rcases fl with _ | _ | _ | u
    · exact False.elim q
    · exact False.elim q
    · exact False.elim q
    · obtain ⟨v, H', I3, rv, ev, q3⟩ := J.after q
      subst ev
      exact ⟨rv, ⟨V.ref (s.heap.objs.size + 1), H', I3, rfl, q3⟩⟩
theorem pe_gmk (M : Mk X.K C f) (F : FnX X k f fd ps sp) (rm : Rm (k + 1) X.A) (tk : Takes X W) (hm : X.mg x = some (.ref C)) (hb : L2.Binds X.K fd ps ds) (hd : Vals dvs ds) (ha : PA X (e :: es) t)
    (hg : Gl X x := by rfl) (hdb : (x == ("__debug__" : Str)) = false := by decide) (he : starEach (e :: es) X.env = (false, eval e X.env) :: starEach es X.env := by rfl) (hpl : (backTo pos (starEach es X.env)).any (·.1) = false := by rfl) :
    PE X (.Call (.Name x p) (e :: es) [] pos) (tGmk C sp dvs W t) := by
  constructor
  intro pins s σ H Q I h
  refine wpAny_Call_Name_kw (ld_glob I hg hm ?_ hdb)
  refine PySem.W.callWith_K (h₀ := X.base) I.ok.mod.kin M.kp (thn (ha.run pos pins s σ H _ I h) ?_) he hpl
  rintro us s1 ⟨vs, H1, I1, r, q⟩
  exact ⟨I1.kIn, run_gmk M F rm tk hb hd I1 r q⟩
end
/-! the law's own call -/
/-- sys.modules stands -/
def BaseM (base : Heap) : Prop := ∃ o es ep, base.get? sysModules = some o ∧ o.data = .dict es ep
def scrH (a : Addr) (o : HO) : Hp := fun b => if b = a then some o else none
theorem law_callG {P : Program} {w : World} {K : PySem.W.Frag} {mg mb : Str → Option Value} {k : Nat} {fa a : Addr} {fd : FuncData} {x : Str} {sp : Sp} {s1 : Shared} {vs : List Value} {ns : List Int}
    (kin : K.In s1.heap) (hmg : s1.heap.Ns mainGlobals mg) (hmb : s1.heap.Ns builtinsNs mb) (hbb : ∀ x : Str, x ≠ "__name__" → mb x = bootBuiltins x) (nolim : s1.heap.NoLimit) (gens : s1.gens = #[])
    (scr : s1.heap.get? a = some { cls := .type "list", data := .seq vs.toArray }) (ii : IntsAre vs ns) (le : ns.length ≤ sizeLine) (rm : Room k callerA)
    (sysm : BaseM s1.heap) (F : ∀ base : Heap, K.In base → base.Ns mainGlobals mg → BaseM base → FnG P w K mg base k fa fd [x] sp) (bind : ∀ (s : Shared) (u : Value), BindsTo s fd ⟨[u], []⟩ [(x, u)])
    (hsp : ∀ H : Hp, SqL K H a (ns.map V.int) → sp [.ref a] H (fun v _ => v = .bl true) fun _ _ _ => False) :
    codeAny (model P w) callerA (.call (.ref fa) ⟨[.ref a], []⟩) (fun r s' => r = .ok (.ret (.bool true)) ∧ OldK s1.heap s'.heap ∧ s'.os = s1.os ∧ AllBare s'.gens) s1 := by
  have vals := vals_ints ii
  have ln := ii.length
  -- H tracks nothing, or the script alone, locked as it stands
  have main : ∀ H : Hp, (∀ b, H b = none ∨ (b = a ∧ K.lookup a = none ∧ ∃ o xs, H b = some (.frz o (.lst xs)))) → SqL K H a (ns.map V.int) → HOk P w H s1.heap →
      codeAny (model P w) callerA (.call (.ref fa) ⟨[.ref a], []⟩) (fun r s' => r = .ok (.ret (.bool true)) ∧ OldK s1.heap s'.heap ∧ s'.os = s1.os ∧ AllBare s'.gens) s1 := by
    intro H tr sq ok
    have out : ∀ {b : Addr} {o : Obj}, s1.heap.get? b = some o → H b = none → (hidT s1.heap H).get? b = some o := fun z n => hidT_get z n
    have free : ∀ {b : Addr} {o : Obj} {es : Array DictEntry} {ep : Nat}, s1.heap.get? b = some o → o.data = .dict es ep → H b = none := by
      intro b o es ep z d
      rcases tr b with h | ⟨rfl, _, _⟩
      · exact h
      · rw [scr] at z
        obtain rfl := Option.some.inj z
        exact Data.noConfusion d
    have ns' : ∀ {b : Addr} {m : Str → Option Value}, s1.heap.Ns b m → (hidT s1.heap H).Ns b m := by
      rintro b m ⟨o, es, ep, z, d, r⟩
      exact ⟨o, es, ep, out z (free z d), d, r⟩
    have kin' : K.In (hidT s1.heap H) := by
      intro b o z
      refine out (kin b o z) ?_
      rcases tr b with h | ⟨rfl, h, _⟩
      · exact h
      · rw [h] at z; exact nomatch z
    have bm : BaseM (hidT s1.heap H) := by
      obtain ⟨o, es, ep, z, d⟩ := sysm
      exact ⟨o, es, ep, out z (free z d), d⟩
    obtain ⟨mc, l1, l2⟩ := nolim
    have md : Mod K mg (hidT s1.heap H) := ⟨kin', ns' hmg, ⟨mb, ns' hmb, hbb⟩, ⟨mc, ns' l1, l2⟩⟩
    have e0 : Env0 P w K mg (hidT s1.heap H) callerA [] s1 H :=
      ⟨rfl, md, fun b o z => of_hidT z, Nat.le_of_eq (hidT_size _ _), trivial, fun b hb => (nomatch (show b ∈ ([] : List Addr) from hb)), ok, .of_eq gens⟩
    refine codeAny_mono ((F _ kin' (ns' hmg) bm).run callerA [] s1 H ⟨[.ref a], []⟩ [.ref a] [.ref a] _ _ ⟨rfl, rm⟩ e0 (bind s1 (.ref a)) (.cons rfl .nil) (hsp H sq)) fun r s' q => ?_
    rcases r with e' | fl
    · obtain ⟨_, _, _, _, _, _, _, _, _, _, _, _, z⟩ := q
      exact z.elim
    · rcases fl with _ | _ | _ | u
      · exact False.elim q
      · exact False.elim q
      · exact False.elim q
      · obtain ⟨v, H', os, bare, un, ok', r', hv⟩ := q
        have hv' : v = .bl true := hv
        subst hv'
        obtain rfl : u = Value.bool true := r'
        refine ⟨rfl, OldK.of_keep ?_, os, bare⟩
        intro b o z
        rcases tr b with h | ⟨_, _, ob, xs, h⟩
        · exact un.keep b o z h (fun m => (nomatch (show b ∈ ([] : List Addr) from m))) (fun m => (nomatch (show b ∈ ([] : List Addr) from m)))
        · have g1 := (ok b _ h).1
          have g2 := (ok' b _ (un.frzs b ob _ h)).1
          rw [z] at g1
          rw [g2, ← Option.some.inj g1]
  cases hk : K.lookup a with
  | some o =>
    have z := kin a o hk
    rw [scr] at z
    obtain rfl := Option.some.inj z
    refine main (fun _ => none) (fun _ => .inl rfl) (.inr ⟨_, vs.toArray, _, hk, rfl, rfl, rfl, ?_, ?_⟩) (fun b u h => (nomatch h))
    · rw [List.size_toArray, ln]; exact le
    · simpa using vals
  | none =>
    refine main (scrH a (.frz { cls := .type "list", data := .seq vs.toArray } (.lst (ns.map V.int)))) (fun b => ?_) (.inl (.inr ⟨_, if_pos rfl⟩)) (fun b u h => ?_)
    · by_cases c : b = a
      · exact .inr ⟨c, hk, _, _, if_pos c⟩
      · exact .inl (if_neg c)
    · by_cases c : b = a
      · have h' := (if_pos c).symm.trans h
        obtain rfl := Option.some.inj h'
        subst c
        exact ⟨scr, (by rw [List.length_map]; exact le), vs, _, vals, scr⟩
      · exact nomatch ((if_neg c).symm.trans h)
theorem walkG {l : PySem.W.OpenLaw} {n k : Nat} {q : Program} {loose : List Str} {XP : (Str → Option Value) → Heap → Prop} {YP : World → Heap → Prop} {d : DefRec} {K : Params → PySem.W.Frag} {sp : World → Sp} {x : Str}
    (hn : l.most = some n) (hn2 : n ≤ sizeLine) (hdf : d.params.defaults = []) (hi : importsNone q = true) (rm : Room k callerA) (hY : ∀ (w : World) (h : Heap), YP w h → (K w.params).In h)
    (F : ∀ (w : World) (mg : Str → Option Value) (fa : Addr) (h : Heap), (K w.params).In h → h.Ns mainGlobals mg → mg d.name = some (.ref fa) →
      ∃ fd : FuncData, (∀ (s : Shared) (u : Value), BindsTo s fd ⟨[u], []⟩ [(x, u)]) ∧ ∀ base : Heap, (K w.params).In base → base.Ns mainGlobals mg → BaseM base → FnG l.prog w (K w.params) mg base k fa fd [x] (sp w))
    (hsp : ∀ (w : World) (H : Hp) (a : Addr) (ns : List Int), ns.length ≤ n → SqL (K w.params) H a (ns.map V.int) → sp w [.ref a] H (fun v _ => v = .bl true) fun _ _ _ => False) :
    PySem.W.WalkO q loose XP YP l.row.toRowW d [] (fun f vs => PySem.call f vs) := by
  refine Att.attach_call hn hdf fun w s0 s1 mg mb fa o pm cd doc a vs ns G Y ho hd hcd hmg scr ii len gens => ?_
  obtain ⟨fd, hb, hF⟩ := F w mg fa _ (hY w _ Y) G.T.g hmg
  exact law_callG (hY w _ Y) G.T.g G.T.b G.T.builtins G.T.nolimit gens scr ii (Nat.le_trans len hn2) rm (by
    obtain ⟨mm, ⟨o, es, ep, z, d, _⟩, _⟩ := (G.T.seer hi).mods
    exact ⟨o, es, ep, z, d⟩) hF hb fun H sq => hsp w H a ns len sq
/-- .. the promise hangs on the written part alone -/
theorem walkGK {l : PySem.W.OpenLaw} {n k : Nat} {q : Program} {loose : List Str} {XP : (Str → Option Value) → Heap → Prop} {YP : World → Heap → Prop} {d : DefRec} {K : Params → PySem.W.Frag} (sp : PySem.W.Frag → Sp) {x : Str}
    (hn : l.most = some n) (hn2 : n ≤ sizeLine) (hdf : d.params.defaults = []) (hi : importsNone q = true) (rm : Room k callerA) (hY : ∀ (w : World) (h : Heap), YP w h → (K w.params).In h)
    (F : ∀ (w : World) (mg : Str → Option Value) (fa : Addr) (h : Heap), (K w.params).In h → h.Ns mainGlobals mg → mg d.name = some (.ref fa) →
      ∃ fd : FuncData, (∀ (s : Shared) (u : Value), BindsTo s fd ⟨[u], []⟩ [(x, u)]) ∧ ∀ base : Heap, (K w.params).In base → base.Ns mainGlobals mg → BaseM base → FnG l.prog w (K w.params) mg base k fa fd [x] (sp (K w.params)))
    (hsp : ∀ (K : PySem.W.Frag) (H : Hp) (a : Addr) (ns : List Int), ns.length ≤ n → SqL K H a (ns.map V.int) → sp K [.ref a] H (fun v _ => v = .bl true) fun _ _ _ => False) :
    PySem.W.WalkO q loose XP YP l.row.toRowW d [] (fun f vs => PySem.call f vs) :=
  walkG (K := K) (sp := fun w => sp (K w.params)) hn hn2 hdf hi rm hY F fun w H a ns h1 h2 => hsp (K w.params) H a ns h1 h2
end Gk

set_option maxRecDepth 100000
set_option maxHeartbeats 1000000
/-! the package's refusals: class X(B): def __init__(self, found): B.__init__(self, '..'); self.found = found, with class B(ValueError): pass -/
namespace Gk
open PySem PySem.Spec PyProof.Rows L2
open PySem.Builtin PySem.Builtin.ObjectAttr
open PySem.W (Frag findIn subIn typeIn keepIn codeIn hasDictIn exmOne fnOf clsIn findCls readsIn specialIn)
/-- the text of __init__ -/
def nA (p1 p2 : Pos) : Arguments := { posonlyargs := [], args := [{ arg := "self", annotation := none, pos := p1 }, { arg := "found", annotation := none, pos := p2 }], vararg := none, kwonlyargs := [], kw_defaults := [], kwarg := none, defaults := [] }
def nB (b txt : Str) (q : Nat → Pos) (j : Nat) : List Stmt :=
  [.Expr (.Call (.Attribute (.Name b (q 0)) "__init__" (q 1)) [.Name "self" (q 2), .Constant (.str txt) j (q 3)] [] (q 4)) (q 5),
   .Assign [.Attribute (.Name "self" (q 6)) "found" (q 7)] (.Name "found" (q 8)) (q 9)]
def nS (b : Str) : Scope := { kind := .function, names := [(Str.ofString "self", .local), (Str.ofString "found", .local), (b, .globalImplicit)], isGenerator := false, isCoroutine := false, more := [] }
/-- a built-in exception's own part of the order of resolution -/
structure Tl (nb newId initId : String) (tl : List Value) : Prop where
  F : ExcBaseFacts nb newId initId tl
  pass : ∀ self, refuseLoop self "__setattr__" tl = pure ()
  obj : tl.contains (.type "object") = true
  hi : PySem.W.handedIn (.builtin initId) = true
theorem tlVE : Tl "ValueError" "ValueError.__new__" "ValueError.__init__" [.type "ValueError", .type "Exception", .type "BaseException", .type "object"] :=
  ⟨F.excBase_ValueError, F.store_ValueError.passes, by decide +kernel, by decide +kernel⟩
theorem tlLE : Tl "LookupError" "LookupError.__new__" "LookupError.__init__" [.type "LookupError", .type "Exception", .type "BaseException", .type "object"] :=
  ⟨F.excBase_LookupError, F.store_LookupError.passes, by decide +kernel, by decide +kernel⟩
/-- the call in its place: as a method's call -/
def CallF (b txt : Str) (q : Nat → Pos) (j : Nat) : Prop := ∃ pl : Env → Sem Bool, ∀ env : Env,
  eval (.Call (.Attribute (.Name b (q 0)) "__init__" (q 1)) [.Name "self" (q 2), .Constant (.str txt) j (q 3)] [] (q 4)) env = (do
    let ov ← eval (.Name b (q 0)) env
    standAt (q 1).atName
    let (f, first) ← holding [ov] (getMethod ov "__init__" (pl env))
    callWith (q 4) f first (backTo (q 4) (starEach [.Name "self" (q 2), .Constant (.str txt) j (q 3)] env)) (backToKw (q 4) (keywordEach [] env)))
/-- what the written part says of the class at C, over B at B, its __init__ at fI -/
structure NoC (K : Frag) (mg : Str → Option Value) (C B fI : Addr) (newId initId bq : String) (b cq : Str) (tl : List Value) : Prop where
  cls : ∃ nm q N bs sn sub ab col dd k0 k1 k2 k3 k5, K.lookup C = some (excClassObj nm q C N bs (.ref B :: tl) true sn sub ab col dd k0 k1 k2 k3 k5 newId)
  gB : mg b = some (.ref B)
  sa : findIn K (.ref C) "__setattr__" = some (some (.builtin "object.__setattr__"))
  ga : findIn K (.ref C) "__getattribute__" = some (some (.builtin "BaseException.__getattribute__"))
  gg : findIn K (.ref C) "__getattr__" = some none
  noN : findIn K (.ref C) "found" = some none
  iC : findIn K (.ref C) "__init__" = some (some (.ref fI))
  tI : typeIn K (.ref fI) = some (.type "function")
  kC : keepIn K (.ref C) = true
  exC : subIn K (.ref C) (.type "BaseException") = some true
  tyC : typeIn K (.ref C) = some (.type "type")
  hdC : hasDictIn K C = true
  rB : readsIn K B (.type "type") = true
  sB : specialIn K (.ref B) "__getattribute__" = some (some (.builtin "type.__getattribute__"))
  iB : findCls K (.ref B) (.type "type") "__init__" = some (.val (.builtin initId))
  fn : ∃ (oc : Value) (od : Option Addr) (dc pm : Value) (an : Option Addr) (cd ct : Value) (osl : Array (Option Value)) (p1 p2 : Pos) (q : Nat → Pos) (j : Nat) (txt : Str),
    K.lookup fI = some ⟨oc, od, .func (fnOf "__init__" cq (nA p1 p2) (nB b txt q j) (nS b) .none .none dc pm an cd ct), osl⟩ ∧ codeIn K cd cq = true ∧ CallF b txt q j
section
variable {M : Model} {prog : Program} {w : World} {A : Around} {E : Value → Shared → Prop} {R : Result → Shared → Prop} {K : Frag} {mg : Str → Option Value} {C B fI : Addr} {nb newId initId bq : String} {b cq : Str} {tl : List Value}
/-- self.name = v on an exception without a dict -/
theorem osaN {hp : Heap} {g : Array GenState} {d : Drawn} {t : Nat} {os : OsState} {name : Str} {tk : Tok} {v : Value} {x C : Addr} {fv : Array Value} {cd : ClassData} (T : Tl nb newId initId tl)
    (kin : K.In hp) (hx : hp.get? x = some { cls := .ref C, data := .fields fv }) (hcd : clsIn K C = some cd) (hm : cd.mro = .ref C :: .ref B :: tl) (hh : cd.hasDict = true) (ha : findIn K (.ref C) name = some none)
    (hq : ∀ h' tk' dx, (∀ c o, c ≠ x → hp.get? c = some o → h'.get? c = some o) → hp.objs.size ≤ dx → dx ≠ x → h'.get? x = some { cls := .ref C, dict := some dx, data := .fields fv } →
      h'.Ns1 dx (fun y => if y = name then some v else none) → R (.ok (.ret .none)) ⟨h', g, d, tk', os⟩) :
    codeAny (model prog w) A (.call (.builtin "object.__setattr__") ⟨[.ref x, .str name tk, v], []⟩) R ⟨hp, g, d, t, os⟩ := by
  have J : PySem.W.InstAt hp x { cls := .ref C, data := .fields fv } C none := ⟨hx, rfl, rfl, trivial⟩
  have so := PySem.F.store_object
  have ps : ∀ self, refuseLoop self "__setattr__" cd.mro = pure () := fun self => by rw [hm, refuseLoop_ref, refuseLoop_ref]; exact T.pass self
  have inObj : cd.mro.contains (.type "object") = true := by
    rw [hm, List.contains_cons, List.contains_cons, T.obj]; simp
  have xs : x ≠ hp.objs.size := Nat.ne_of_lt (Heap.lt_size hx)
  have isO : PySem.W.Looks (model prog w) hp (isInstance (.ref x) (.type "object")) true := by
    refine J.type.andThen (PySem.W.looks_mroIn kin ?_)
    unfold PySem.W.mroIn
    rw [hcd, Option.bind_some, if_neg (by rw [hm]; simp), inObj]
  refine codeAny_call_builtin so.slot.plain so.entry ?_
  refine @PySem.W.check_slot (model prog w) _ _ ⟨hp, g, d, t, os⟩ "object.__setattr__" "object" "__setattr__" (.ref x) [.str name tk, v] [] _ so.kind so.split isO (so.args (.ref x) (.str name tk) v) ?_
  have lm : PySem.W.Looks (model prog w) hp (mroOf (.ref C)) cd.mro := (PySem.W.looks_clsIn kin hcd).andThen .now
  have lc : PySem.W.Looks (model prog w) hp (classData C) cd := PySem.W.looks_clsIn kin hcd
  have l0 : PySem.W.Looks (model prog w) hp (storeTaker? none) none := .now
  rw [PySem.W.osa_eq, refuse_eq]
  refine wpAny_bind (wpAny_bind (J.type.at (wpAny_bind (lm.at ?_))))
  rw [ps]
  refine wpAny_pure (wpAny_bind (J.type.at (wpAny_bind ((PySem.W.looks_findIn kin ha).at (wpAny_bind (l0.at ?_))))))
  show wpAny _ _ (storeInOwnDict (.ref x) (.ref C) (.str name tk) name v false) _ _ _
  obtain ⟨a1, a2, a3, a4, a5, a6, a7, a8, a9, a10, a11⟩ := cd
  dsimp only at hh
  subst hh
  unfold storeInOwnDict ownDictForStores
  repeat (first | with_reducible refine PySem.HandSPX.store_in_new ?_ ?_ | with_reducible refine wpAny_loadPart_at hx ?_ | with_reducible refine lc.at ?_ | wp_step)
  · exact ⟨_, #[], _, (Heap.get?_update_ne _ _ _ _ xs.symm).trans (Heap.get?_push_at rfl rfl), rfl, (fun e he => absurd he (by simp)), fun _ => rfl⟩
  · intro h' tk' hn' hs
    have hx1 : (hp.push { cls := .type "dict", data := .dict #[] }).get? x = some { cls := .ref C, data := .fields fv } := Heap.get?_push_of_some _ hx
    refine hq h' tk' hp.objs.size (fun c o hc ho => ?_) (Nat.le_refl _) xs.symm ((hs.2 x xs).trans (Heap.get?_update_self _ hx1 rfl)) hn'
    exact (hs.2 c (Nat.ne_of_lt (Heap.lt_size ho))).trans ((Heap.get?_update_ne _ _ _ _ hc).trans (Heap.get?_push_of_some _ ho))
theorem ldN {env : Env} {m : Str → Option Value} {x : Str} {pos : Pos} {v : Value} {Q : Value → Shared → Prop} {s : Shared} (hk : env.scope.kind = .function) (hl : env.kindOf x = some .local) (hn : s.heap.Ns env.locals m) (hv : m x = some v) (h : Q v s)
    (hd : (x == ("__debug__" : Str)) = false := by decide) : wpAny M A (eval (.Name x pos) env) Q E s := wpAny_Name (wpAny_loadName_local hk hl hn hv h) hd
/-- what __init__ leaves of a fresh exception at x -/
structure EndN (h h' : Heap) (x C dx t1 : Addr) (v : Value) : Prop where
  keep : ∀ c o, c ≠ x → h.get? c = some o → h'.get? c = some o
  obj : h'.get? x = some { cls := .ref C, dict := some dx, data := .fields #[.ref t1, .none, .none, .none, .bool false, .none] }
  big : h.objs.size ≤ dx
  ne : dx ≠ x
  ns : h'.Ns1 dx (fun y => if y = "found" then some v else none)
theorem init_no {s : Shared} (T : Tl nb newId initId tl) (N : NoC K mg C B fI newId initId bq b cq tl) {x t0 : Addr} {v : Value} (kin : K.In s.heap) (hmg : s.heap.Ns mainGlobals mg) (lim : s.heap.NoLimit) (hx : s.heap.get? x = some (PySem.HandSPX.excO C t0)) (hnx : K.lookup x = none) (room : A.depth < recursionLimit)
    (hb1 : (b == ("__debug__" : Str)) = false) (hb2 : ¬ b = "self") (hb3 : ¬ b = "found")
    (hq : ∀ h' tk dx t1, EndN s.heap h' x C dx t1 v → R (.ok (.ret .none)) { s with heap := h', toks := tk }) : codeAny (model prog w) A (.call (.ref fI) ⟨[.ref x, v], []⟩) R s := by
  obtain ⟨oc, od, dc, pm, an, cd, ct, osl, p1, p2, q, j, txt, lk, hcd, pl, hcall⟩ := N.fn
  obtain ⟨nm, qq, NN, bs, sn, sub, ab, col, dd, k0, k1, k2, k3, k5, hC⟩ := N.cls
  have hcl : clsIn K C = some { name := nm, bases := bs, mro := .ref C :: .ref B :: tl, ns := NN, qualname := qq, hasDict := true, slotNames := sn, subclasses := sub, abstract := ab, collection := col, hasDel := false } := by unfold clsIn; rw [hC] <;> rfl
  refine Att.call_fn (binds := [("self", .ref x), ("found", v)]) kin lim lk hcd room (BindsTo.of_eq (by first | rfl | with_unfolding_all rfl)) (by first | rfl | decide | with_unfolding_all rfl) (fun s1 ic => ?_) rfl rfl rfl
  obtain ⟨h1, tk1, rfl⟩ := ic.toInCall.same
  have keep : ∀ c o, s.heap.get? c = some o → h1.get? c = some o := ic.toInCall.keep
  have hn := ic.toInCall.ns
  have xL : s.heap.objs.size ≠ x := Nat.ne_of_gt (Heap.lt_size hx)
  have kin1 : K.In h1 := kin.keeps keep
  have hx1 := keep _ _ hx
  have hg1 : h1.Ns mainGlobals mg := hmg.keeps keep
  have kl : (envOfC cq (nS b) s.heap.objs.size fI cd).kindOf b = some .globalImplicit := by
    show (nS b).names.lookup b = some .globalImplicit
    show (List.lookup b [(Str.ofString "self", NameKind.local), (Str.ofString "found", NameKind.local), (b, NameKind.globalImplicit)]) = _
    rw [List.lookup_cons, List.lookup_cons, List.lookup_cons]
    rw [show (b == Str.ofString "self") = false from beq_eq_false_iff_ne.mpr hb2, show (b == Str.ofString "found") = false from beq_eq_false_iff_ne.mpr hb3, show (b == b) = true from beq_self_eq_true b]
  show wpAny _ _ (execs _ _) _ _ _
  refine wpAny_execs_cons (wpAny_Expr_any ?_ (by first | rfl | with_unfolding_all rfl) (by first | rfl | with_unfolding_all rfl))
  -- B.__init__(self, '..')
  refine PySem.W.methodCall_KW (Calls.Name_function_global (by first | rfl | with_unfolding_all rfl) kl (Calls.loadGlobal_global hg1 N.gB ?_) hb1) (hcall _)
  refine PySem.W.method_cls kin1 N.sB (PySem.W.cls_value kin1 N.rB N.iB T.hi ?_)
  show wpAny _ _ (callWith (q 4) (Value.builtin initId) [] (backTo (q 4) (starEach [.Name "self" (q 2), .Constant (.str txt) j (q 3)] _)) []) _ _ _
  refine PyProof.Rows.callWith_method1 ?_ (by rfl) (by rfl)
  refine spliced_more (ldN (v := .ref x) rfl (by first | rfl | with_unfolding_all rfl) hn (by first | rfl | with_unfolding_all rfl | kernel_rfl) ?_)
  refine spliced_more (Calls.Constant_str ?_)
  refine spliced_none ?_
  have conts : ∀ Y : String, (Value.ref B :: tl).contains (.type Y) = tl.contains (.type Y) := fun Y => by rw [List.contains_cons]; rfl
  refine wpAny_call (PySem.HandSPX.init_base T.F conts (kin1 _ _ hC) hx1 (by rw [sizeLine_eq]; exact (by decide : 1 ≤ 16777216)) fun h2 t1 k2 hx2 => ?_)
  -- self.found = found
  show wpAny _ _ (execs _ _) _ _ _
  have L0 : s.heap.objs.size ≠ x := xL
  have hn2 := hn.at (fun o e => k2 _ o L0 e)
  have kin2 : K.In h2 := fun a o e => k2 a o (fun z => by
    rw [z, hnx] at e
    exact nomatch e) (kin1 a o e)
  refine wpAny_execs_cons (plainObj_wpAny_Assign_Attribute ?_)
  refine ldN (v := v) rfl (by first | rfl | with_unfolding_all rfl) hn2 (by first | rfl | with_unfolding_all rfl | kernel_rfl) (ldN (v := .ref x) rfl (by first | rfl | with_unfolding_all rfl) hn2 (by first | rfl | with_unfolding_all rfl | kernel_rfl) ?_)
  refine PySem.W.set_plain kin2 (ox := PySem.HandSPX.excO C t1) (od := none) ⟨hx2, rfl, rfl, trivial⟩ N.sa ?_
  refine osaN T kin2 hx2 hcl rfl rfl N.noN (fun h3 tk3 dx k3 dn dne hx3 hn3 => ?_)
  show wpAny _ _ (execs _ _) _ _ _
  refine wpAny_execs_nil (hq h3 tk3 dx t1 ⟨fun c o hc e => k3 c o hc (k2 c o hc (keep c o e)), hx3, ?_, dne, hn3⟩)
  exact Nat.le_of_lt (Nat.lt_of_lt_of_le hn2.lt dn)
/-- such an exception, made -/
structure MadeN (h h' : Heap) (e C d : Addr) (v : Value) : Prop where
  keep : ∀ c o, h.get? c = some o → h'.get? c = some o
  new : h.objs.size ≤ e
  obj : ∃ oe vs, h'.get? e = some oe ∧ oe.cls = .ref C ∧ oe.dict = some d ∧ oe.data = .fields vs ∧ vs[1]? = some .none
  big : h.objs.size ≤ d
  ne : d ≠ e
  ns : h'.Ns1 d (fun y => if y = "found" then some v else none)
theorem made_no {s : Shared} (T : Tl nb newId initId tl) (N : NoC K mg C B fI newId initId bq b cq tl) {v : Value} (kin : K.In s.heap) (hmg : s.heap.Ns mainGlobals mg) (lim : s.heap.NoLimit) (room : A.depth + 1 < recursionLimit)
    (hb1 : (b == ("__debug__" : Str)) = false) (hb2 : ¬ b = "self") (hb3 : ¬ b = "found")
    (hq : ∀ h' tk e d, MadeN s.heap h' e C d v → R (.ok (.ret (.ref e))) { s with heap := h', toks := tk }) : codeAny (model prog w) A (.call (.ref C) ⟨[v], []⟩) R s := by
  obtain ⟨nm, qq, NN, bs, sn, sub, ab, col, dd, k0, k1, k2, k3, k5, hC⟩ := N.cls
  obtain ⟨hp, g, dr, tk, os⟩ := s
  have up : ∀ c o, hp.get? c = some o → ((hp.push (PySem.W.kdv_tup [v])).push (PySem.HandSPX.excO C hp.objs.size)).get? c = some o :=
    fun c o z => Heap.get?_push_of_some _ (Heap.get?_push_of_some _ z)
  have here : ((hp.push (PySem.W.kdv_tup [v])).push (PySem.HandSPX.excO C hp.objs.size)).get? (hp.objs.size + 1) = some (PySem.HandSPX.excO C hp.objs.size) := by heap_get
  have out : K.lookup (hp.objs.size + 1) = none := by
    cases z : K.lookup (hp.objs.size + 1) with
    | none => rfl
    | some o => exact absurd (Nat.lt_of_succ_lt (Heap.lt_size (show hp.get? (hp.objs.size + 1) = some o from kin _ _ z))) (Nat.lt_irrefl _)
  have conts : ∀ Y : String, (Value.ref B :: tl).contains (.type Y) = tl.contains (.type Y) := fun Y => by rw [List.contains_cons]; rfl
  refine PySem.HandSPX.call_own T.F conts (kin _ _ hC) (PySem.W.looks_findIn kin N.iC) (fun self => PySem.W.bind_fn kin self N.tI) (by rw [sizeLine_eq]; exact (by decide : 1 ≤ 16777216)) ?_
  refine init_no (s := ⟨(hp.push (PySem.W.kdv_tup [v])).push (PySem.HandSPX.excO C hp.objs.size), g, dr, tk, os⟩) T N (kin.keeps up) (hmg.keeps up) (lim.keeps up) here out (show A.depth + 1 < recursionLimit from room) hb1 hb2 hb3 fun h' tk' dx t1 ⟨k', hx, big, ne, ns⟩ => ?_
  have old : ∀ c o, hp.get? c = some o → h'.get? c = some o := fun c o z => k' c o (Nat.ne_of_lt (Nat.lt_succ_of_lt (Heap.lt_size z))) (up c o z)
  have sz : hp.objs.size + 1 + 1 ≤ dx := by
    first
      | (simpa only [Heap.size_push] using big)
      | exact big
      | (have z := big; rw [Heap.size_push, Heap.size_push] at z; exact z)
  exact ⟨rfl, hq h' tk' (hp.objs.size + 1) dx ⟨old, Nat.le_succ _, ⟨_, _, hx, rfl, rfl, rfl, rfl⟩, Nat.le_trans (Nat.le_trans (Nat.le_succ _) (Nat.le_succ _)) sz, ne, ns⟩⟩
end
/-- what the exception's dict tells -/
theorem relO_found {v : V} {u : Value} (r : RelV v u) (f : Str) : RelO (List.lookup f [(("found" : Str), v)]) (if f = "found" then some u else none) := by
  rw [lookup_put]
  by_cases h : f = "found"
  · rw [if_pos h, if_pos h]; exact r
  · rw [if_neg h, if_neg h]; trivial
section
variable {X : Cx} {C B fI : Addr} {nb newId initId bq : String} {b cq cn : Str} {tl : List Value}
/-- X(e) -/
def tMkN (C : Addr) (ta : TA) : L2.St → Hp → XK → Prop := fun σ H Q => ta σ H fun vs H1 => ∃ v, vs = [v] ∧ ∀ d, H1 d = none → Q (.ref C) (some d) (upd H1 d (.xd [(("found" : Str), v)]))
theorem pmk_no {a : Expr} {ta : TA} {p pos : Pos} {k : Nat} (T : Tl nb newId initId tl) (N : NoC X.K X.mg C B fI newId initId bq b cq tl) (hm : X.mg cn = some (.ref C)) (hr : Rm k X.A)
    (hb1 : (b == ("__debug__" : Str)) = false) (hb2 : ¬ b = "self") (hb3 : ¬ b = "found") (ha : PA X [a] ta) (hg : Gl X cn := by rfl) (hdb : (cn == ("__debug__" : Str)) = false := by decide)
    (he : starEach (a :: []) X.env = (false, eval a X.env) :: starEach [] X.env := by rfl) (hpl : (backTo pos (starEach [] X.env)).any (·.1) = false := by rfl) :
    PMk X (.Call (.Name cn p) [a] [] pos) (tMkN C ta) := by
  intro pins s σ H Q I h
  refine wpAny_Call_Name_kw (ld_glob I hg hm ?_ hdb)
  refine PySem.W.callWith_K (h₀ := X.base) I.ok.mod.kin N.kC (thn (ha.run pos pins s σ H _ I h) ?_) he hpl
  rintro us s1 ⟨vs, H1, I1, r1, v, rfl, q1⟩
  refine ⟨I1.kIn, ?_⟩
  obtain ⟨u, rfl, rv⟩ := vals1 r1
  show wpAny _ _ (call (.ref C) [u]) _ _ _
  have lim := I1.nolimit
  have hmg : s1.heap.Ns mainGlobals X.mg := I1.mod.glob.keeps I1.bk
  obtain ⟨hp, g, dr, tk, os⟩ := s1
  refine wpAny_call (made_no T N I1.kIn hmg lim (by have := hr.r.dp; omega) hb1 hb2 hb3 fun h' tk' e d M => ?_)
  show MkP X pins σ Q (.ref e) ⟨h', g, dr, tk', os⟩
  obtain ⟨oe, fv, hoe, hc, hd, hdat, h1⟩ := M.obj
  have ns := M.ns
  obtain ⟨G, g1, g2⟩ := restrict h' fun c => decide (c ≠ e)
  have gk : ∀ c, c ≠ e → G.get? c = h'.get? c := fun c z => g1 c (decide_eq_true z)
  have ge : G.get? e = none := g2 e (by simp)
  have old : ∀ c o, hp.get? c = some o → G.get? c = some o := fun c o z => (gk c (Nat.ne_of_lt (Nat.lt_of_lt_of_le (Heap.lt_size z) M.new))).trans (M.keep c o z)
  have ob : ObjOk X.prog X.w (upd H1 d (.xd [(("found" : Str), v)])) G d (.xd [(("found" : Str), v)]) :=
    ⟨_, ns.at (fun o z => (gk d M.ne).trans z), fun f => relO_found rv f⟩
  have J : Inv X pins σ (upd H1 d (.xd [(("found" : Str), v)])) ⟨G, g, dr, tk', os⟩ := I1.laid (t' := tk') old M.big ob
  refine ⟨e, oe, fv, ⟨G, g, dr, tk', os⟩, _, .ref C, some d, rfl, J, fun c o z => ?_, ge, hoe, ⟨hc, hd⟩, hdat, h1, ?_, rfl, I1.bare, raises_own N.exC N.tyC, q1 d (I1.hok.fresh M.big)⟩
  · by_cases hce : c = e
    · have z' : G.get? c = some o := z
      rw [hce, ge] at z'
      exact nomatch z'
    · exact (gk c hce).symm.trans z
  · rw [upd_ne (Ne.symm M.ne)]
    exact I1.hok.fresh M.new
/-- raise X(e) -/
def tRaiseN (C : Addr) (W : WX) (ta : TA) : TS := fun _ σ H => tMkN C ta σ H fun c d H' => W c d σ H'
theorem ps_raiseN {a : Expr} {ta : TA} {W : WX} {p pos pos2 : Pos} {k : Nat} (hc : X.calm = true) (tk : Takes X W) (T : Tl nb newId initId tl) (N : NoC X.K X.mg C B fI newId initId bq b cq tl) (hm : X.mg cn = some (.ref C)) (hr : Rm k X.A)
    (hb1 : (b == ("__debug__" : Str)) = false) (hb2 : ¬ b = "self") (hb3 : ¬ b = "found") (ha : PA X [a] ta) (hg : Gl X cn := by rfl) (hdb : (cn == ("__debug__" : Str)) = false := by decide)
    (he : starEach (a :: []) X.env = (false, eval a X.env) :: starEach [] X.env := by rfl) (hpl : (backTo pos (starEach [] X.env)).any (·.1) = false := by rfl) :
    PS X (.Raise (some (.Call (.Name cn p) [a] [] pos)) none pos2) (tRaiseN C W ta) := ps_raise hc tk (pmk_no T N hm hr hb1 hb2 hb3 ha hg hdb he hpl)
/-- e.found, e the exception that the suite holds -/
def tFound (C : Addr) (a : Addr) (cls : Value) (d : Option Addr) (te : TE) : TE := fun σ H Q => te σ H fun x H1 => x = .ref a ∧ cls = .ref C ∧ ∃ (dd : Addr) (v : V), d = some dd ∧ H1 dd = some (.xd [(("found" : Str), v)]) ∧ Q v H1
theorem pe_found {a : Addr} {oe : Obj} {cls : Value} {d : Option Addr} {pn : List (Addr × Obj)} {e : Expr} {te : TE} {pos : Pos} (N : NoC X.K X.mg C B fI newId initId bq b cq tl) (hz : Zc cls d oe) (hf : ∃ vs, oe.data = .fields vs) (he : PE (X.suite a ((a, oe) :: pn)) e te)
    (hb : attributeBase e "found" X.env (eval e X.env) = eval e X.env := by rfl) : PE (X.suite a ((a, oe) :: pn)) (.Attribute e "found" pos) (tFound C a cls d te) := by
  constructor
  intro pins s σ H Q I h
  refine attr_of hb (thn (he.run pins s σ H _ I h) ?_)
  rintro u s1 ⟨x, H1, I1, rx, rfl, rfl, dd, v, rfl, ea, q⟩
  obtain rfl : u = Value.ref a := rx
  obtain ⟨ha, _⟩ := I1.pin (a, oe) (List.mem_append_left _ List.mem_cons_self)
  obtain ⟨vs, hd⟩ := hf
  obtain ⟨mA, hns, hr⟩ := (show ObjOk X.prog X.w H1 s1.heap dd (.xd [(("found" : Str), v)]) from I1.hok dd _ ea)
  obtain ⟨od, ho, hl⟩ := lookIn_ns hns
  have l : List.lookup ("found" : Str) [(("found" : Str), v)] = some v := by rw [lookup_put, if_pos rfl]
  obtain ⟨w', hu, ru⟩ := RelO.some_of (v := v) (o := mA "found") (by rw [← l]; exact hr "found")
  have J : PySem.W.InstAt s1.heap a oe C (some od) := ⟨ha, hz.1, by unfold PySem.W.notCls; rw [hd] <;> rfl, by rw [hz.2]; exact ho⟩
  refine PySem.HandSPX.exc_get I1.kIn J N.ga N.gg N.exC (PySem.W.findObj_own N.hdC N.noN rfl ?_) (handed_of ru) ⟨v, H1, I1.tok _, ru, q⟩
  rw [hl, hu]
end
end Gk

set_option maxRecDepth 100000
set_option maxHeartbeats 1000000
/-! try with several clauses, each with or without a name -/
namespace Gk
open PySem PySem.Spec PyProof.Rows L2
abbrev Cl := Value × Option Nat × (Addr → Value → Option Addr → TS)
/-- the named clause's name is gone behind its suite -/
def clD (i : Nat) (D : Ends) : Ends :=
  { nx := fun σ H => D.nx (σ.set i none) H, rt := D.rt, bk := fun σ H => D.bk (σ.set i none) H, ct := fun σ H => D.ct (σ.set i none) H }
def clGo (c : Cl) (a : Addr) (cls : Value) (d : Option Addr) (D : Ends) (σ : L2.St) (H : Hp) : Prop :=
  match c.2.1 with
  | none => c.2.2 a cls d D σ H
  | some i => c.2.2 a cls d (clD i D) (σ.set i (some (.ref a))) H
def wCl (K : PySem.W.Frag) (Wo : WX) (D : Ends) : List Cl → WX
  | [] => Wo
  | c :: r => fun cls d σ H => ∃ b, PySem.W.exmOne K cls c.1 = some b ∧ (b = true → ∀ a, H a = none → clGo c a cls d D σ H) ∧ (b = false → wCl K Wo D r cls d σ H)
inductive ClsOk (X : Cx) : List ExceptHandler → List Cl → Prop
  | nil : ClsOk X [] []
  | plain {x : Str} {c : Value} {ts : Addr → Value → Option Addr → TS} {b0 : Stmt} {su : List Stmt} {np hp : Pos} {hs : List ExceptHandler} {l : List Cl} (hc : Names X x c)
      (hsu : ∀ (a : Addr) (oe : Obj) (cls : Value) (d : Option Addr) (pn : List (Addr × Obj)), Zc cls d oe → (∃ vs, oe.data = .fields vs) → PSs (X.suite a ((a, oe) :: pn)) (b0 :: su) (ts a cls d)) (r : ClsOk X hs l) :
      ClsOk X (.ExceptHandler (some (.Name x np)) none (b0 :: su) hp :: hs) ((c, none, ts) :: l)
  | named {x n : Str} {i : Nat} {c : Value} {ts : Addr → Value → Option Addr → TS} {b0 : Stmt} {su : List Stmt} {np hp : Pos} {hs : List ExceptHandler} {l : List Cl} (hi : X.N[i]? = some n) (hl : X.env.kindOf n = some .local) (hc : Names X x c)
      (hsu : ∀ (a : Addr) (oe : Obj) (cls : Value) (d : Option Addr) (pn : List (Addr × Obj)), Zc cls d oe → (∃ vs, oe.data = .fields vs) → PSs (X.suite a ((a, oe) :: pn)) (b0 :: su) (ts a cls d)) (r : ClsOk X hs l) :
      ClsOk X (.ExceptHandler (some (.Name x np)) (some n) (b0 :: su) hp :: hs) ((c, some i, ts) :: l)
section
variable {X : Cx} {body : List Stmt} {h0 : ExceptHandler} {hs : List ExceptHandler} {l : List Cl} {pos : Pos} {tb : WX → TS} {Wo : WX}
theorem SP.ofTry {pins pn' : List (Addr × Obj)} {xe : Value → Shared → Prop} {D : Ends} {f : Flow} {s : Shared} (ok : X.Ok) (h : SP (X.tr (X.pn ++ pins) xe) pn' D f s) : SP X pins D f s := by
  rcases f with _ | _ | _ | u
  · obtain ⟨a, b, J, q⟩ := h; exact ⟨a, b, J.ofTry ok, q⟩
  · obtain ⟨a, b, J, q⟩ := h; exact ⟨a, b, J.ofTry ok, q⟩
  · obtain ⟨a, b, J, q⟩ := h; exact ⟨a, b, J.ofTry ok, q⟩
  · obtain ⟨v, a, b, J, r, q⟩ := h; exact ⟨v, a, b, J.ofTry ok, r, q⟩
theorem SP.unsuite {pins pn' : List (Addr × Obj)} {a : Addr} {q : Addr × Obj} {D : Ends} {f : Flow} {s : Shared} (ok : X.Ok) (h : SP (X.suite a (q :: (X.pn ++ pins))) pn' D f s) : SP X pins D f s := by
  rcases f with _ | _ | _ | u
  · obtain ⟨x, b, J, q⟩ := h; exact ⟨x, b, J.unsuite ok, q⟩
  · obtain ⟨x, b, J, q⟩ := h; exact ⟨x, b, J.unsuite ok, q⟩
  · obtain ⟨x, b, J, q⟩ := h; exact ⟨x, b, J.unsuite ok, q⟩
  · obtain ⟨v, x, b, J, r, q⟩ := h; exact ⟨v, x, b, J.unsuite ok, r, q⟩
theorem ps_tryG (hst : X.stack = X.env :: X.outer) (hf : X.env.frame = some X.env.locals) (hN : X.N.Nodup) (tk : Takes X Wo)
    (hb : ∀ (W : WX) (pn : List (Addr × Obj)) (xe : Value → Shared → Prop), Takes (X.tr pn xe) W → PassesOwn (model X.prog X.w) X.A X.env xe → PSs (X.tr pn xe) body (tb W))
    (hh : ClsOk X (h0 :: hs) l) : PS X (.Try body (h0 :: hs) [] [] pos) (fun D σ H => tb (wCl X.K Wo D l) D σ H) := by
  constructor
  intro pins s σ H D I h
  have ok := I.ok
  have frm : X.A.frames = some (X.env :: X.outer) := by rw [ok.frames, hst]
  refine wpAny_Try_except (wpAny_mono ((hb (wCl X.K Wo D l) (X.pn ++ pins) _ ?_ PassesOwn.looking).run [] s σ H D (I.toTry _) h) ?_ fun _ _ z => z)
  · rintro u s' ⟨a, B, sI, pins', σ', H', cls, d, rfl, J', nb, up, sky, na, os, ag, wish⟩
    have J : Inv X pins σ' H' sI := J'.ofTry ok
    rw [show (X.tr (X.pn ++ pins) _).stack = X.env :: X.outer from hst] at sky
    show wpAny (model X.prog X.w) X.A (noteFrame (.ref a) X.env) _ _ _
    refine Sky.land Zc.steady frm hf sky fun h3 fl3 up3 => ?_
    have J3 : Inv X pins σ' H' { s' with heap := h3 } := J.landed nb fl3.1 (up.trans up3) os ag
    obtain ⟨oe3, vs3, he3, hz3, hd3⟩ := fl3.there
    have noFrame : a ∉ frs (X.env :: X.outer) := fun m => by
      obtain ⟨_, o', e', hnf⟩ := fl3.2.2.1.mem m
      rw [he3] at e'
      obtain rfl := Option.some.inj e'
      exact hnf _ hd3
    have nL : a ≠ X.env.locals := fun z => noFrame (List.mem_filterMap.mpr ⟨X.env, List.mem_cons_self, by rw [hf, z]⟩)
    have nF : a ∉ X.fs := fun m => by
      obtain ⟨v, hv, q⟩ := List.mem_filterMap.mp m
      exact noFrame (List.mem_filterMap.mpr ⟨v, List.mem_cons_of_mem _ hv, q⟩)
    have S3 := J3.suite he3 hd3 na nL nF
    have tyA : PySem.W.Looks (model X.prog X.w) h3 (typeOf (.ref a)) cls := fun A Q E s k q => wpAny_typeOf_ref (k _ _ he3) (by rw [hz3.1]; exact q)
    have asks : ∀ {x : Str} {c : Value} {np : Pos}, Names X x c → ∀ {Q : Value → Shared → Prop} {E : Value → Shared → Prop}, Q c { s' with heap := h3 } →
        wpAny (model X.prog X.w) (X.A.mark (some (.ref a))) (eval (.Name x np) X.env) Q E { s' with heap := h3 } := by
      rintro x c np ⟨hg, hdb, hm | ⟨hm, hv, hn⟩⟩ Q E q
      · exact ld_glob (X := X.suite a ((a, oe3) :: (X.pn ++ pins))) S3 hg hm q hdb
      · exact ld_blt (X := X.suite a ((a, oe3) :: (X.pn ++ pins))) S3 hg hm hv q hn hdb
    have going : ∀ {hs' : List ExceptHandler} {l' : List Cl}, ClsOk X hs' l' → wCl X.K Wo D l' cls d σ' H' → wpAny (model X.prog X.w) X.A (handleBy (.ref a) X.env hs') (SP X pins D) X.xe { s' with heap := h3 } := by
      intro hs' l' hk
      induction hk with
      | nil =>
        intro wo
        refine wpAny_handleBy_nil ?_
        obtain ⟨_, _, _, oe, vs, T, oT, ts', he, _, hd, h1, _⟩ := id fl3
        unfold PySem.passOn
        refine wpAny_bind (wpAny_field he hd h1 ?_)
        rw [if_neg (show ¬ ((Value.ref T == Value.none) = true) by simp)]
        have out : wpAny (model X.prog X.w) X.A (setFlight (.ref a) X.env.frame) (fun _ s4 => wpAny (model X.prog X.w) X.A (throw (.ref a) : Sem Flow) (SP X pins D) X.xe s4) X.xe { s' with heap := h3 } := by
          rw [hf]
          refine PySem.HandSPX.setFlight_upZ fl3 fun h4 hh4 up4 => wpAny_throw (tk _ _ ?_)
          exact ⟨a, B, sI, pins, σ', H', cls, d, rfl, J, nb, (up.trans up3).trans up4, .inr (.inr (by rw [hst]; exact hh4)), na, os, ag, wo⟩
        first
          | exact wpAny_bind (wpAny_pure (wpAny_bind out))
          | exact wpAny_bind out
      | @plain x c ts b0 su np hp hs2 l2 hc hsu r ih =>
        rintro ⟨b, hb1, yes, no⟩
        refine wpAny_handleBy_cons (codeAny_handlers_test (asks hc ((PySem.W.exm_one (M := model X.prog X.w) J3.kIn tyA hb1).here ?_))) (by intro q; cases q)
        cases b with
        | false => exact ih (no rfl)
        | true =>
          refine codeAny_handlers_suite (PySem.HandSPX.lands_againZ fl3 fun h4 fl4 up4 => ?_)
          have J4 : Inv X pins σ' H' { s' with heap := h4 } := J.landed nb fl4.1 ((up.trans up3).trans up4) os ag
          obtain ⟨oe4, vs4, he4, hz4, hd4⟩ := fl4.there
          exact wpAny_mono ((hsu a oe4 cls d (X.pn ++ pins) hz4 ⟨_, hd4⟩).run [] _ _ H' _ (J4.suite he4 hd4 na nL nF) (yes rfl a na)) (fun f s6 q => SP.unsuite ok q) (fun _ _ z => z.elim)
      | @named x n i c ts b0 su np hp hs2 l2 hi hl hc hsu r ih =>
        rintro ⟨b, hb1, yes, no⟩
        refine wpAny_handleBy_cons (codeAny_handlers_test (asks hc ((PySem.W.exm_one (M := model X.prog X.w) J3.kIn tyA hb1).here ?_))) (by intro q; cases q)
        cases b with
        | false => exact ih (no rfl)
        | true =>
          refine codeAny_handlers_suite_as (PySem.HandSPX.lands_againZ fl3 fun h4 fl4 up4 => ?_)
          have J4 : Inv X pins σ' H' { s' with heap := h4 } := J.landed nb fl4.1 ((up.trans up3).trans up4) os ag
          obtain ⟨oe4, vs4, he4, hz4, hd4⟩ := fl4.there
          refine store_ok (X := X.suite a ((a, oe4) :: (X.pn ++ pins))) (v := .ref a) (J4.suite he4 hd4 na nL nF) hN hi (.inl hl) rfl (fun s5 S5 => ?_) (.inr hl)
          refine wpAny_mono ((hsu a oe4 cls d (X.pn ++ pins) hz4 ⟨_, hd4⟩).run [] s5 _ H' _ S5 (yes rfl a na)) (fun f s6 q => ?_) (fun _ _ z => z.elim)
          have q' := SP.unsuite ok q
          have gone : ∀ {σ6 : L2.St} {H6 : Hp} {Q : Shared → Prop}, Inv X pins σ6 H6 s6 → (∀ s7, Inv X pins (σ6.set i none) H6 s7 → Q s7) →
              wpAny (model X.prog X.w) X.A (do bindName X.env n .none; unbindBehindTheSuite X.env n hp) (fun _ s7 => Q s7) X.xe s6 := fun S6 hq => gone_ok S6 hN hi hl hq
          rcases f with _ | _ | _ | u
          · obtain ⟨σ6, H6, S6, q6⟩ := q'
            exact gone S6 fun s7 J7 => ⟨_, _, J7, q6⟩
          · obtain ⟨σ6, H6, S6, q6⟩ := q'
            exact gone S6 fun s7 J7 => ⟨_, _, J7, q6⟩
          · obtain ⟨σ6, H6, S6, q6⟩ := q'
            exact gone S6 fun s7 J7 => ⟨_, _, J7, q6⟩
          · obtain ⟨v6, σ6, H6, S6, r6, q6⟩ := q'
            exact gone S6 fun s7 J7 => ⟨_, _, _, J7, r6, q6⟩
    exact going hh wish
  · intro f s1 q
    have q' := SP.ofTry ok q
    rcases f with _ | _ | _ | u
    · obtain ⟨x, b, J, z⟩ := q'; exact wpAny_execs_nil ⟨x, b, J, z⟩
    · exact q'
    · exact q'
    · exact q'
end
end Gk

set_option maxRecDepth 100000
set_option maxHeartbeats 1000000
/-! operators by whatever the values are -/
namespace Gk
open PySem PySem.Spec PyProof.Rows L2
section
variable {X : Cx}
theorem OpR.imp {f : Value → Value → Sem Value} {r r' : R2} (h : OpR X f r) (i : ∀ x y H Q, r' x y H Q → r x y H Q) : OpR X f r' :=
  fun pins s σ H x y v u Q I rx ry q => h pins s σ H x y v u Q I rx ry (i _ _ _ _ q)
theorem CallR.imp {f : Value} {r r' : List V → Hp → VK → Prop} (h : CallR X f r) (i : ∀ xs H Q, r' xs H Q → r xs H Q) : CallR X f r' :=
  fun pins s σ H xs us Q I rv q => h pins s σ H xs us Q I rv (i _ _ _ q)
/-- lists: found in H or written -/
def gAdd (K : PySem.W.Frag) : R2 := fun x y H Q => rI0 (fun i j => .int (i + j)) x y H Q ∨ (∃ i j, x = .str i ∧ y = .str j ∧ i.length + j.length ≤ sizeLine ∧ Q (.str (i ++ j)) H) ∨ rCat x y H Q ∨ rCatA K x y H Q
theorem op_gAdd : OpR X (binaryOp .Add) (gAdd X.K) := op_add.or (op_add_str.or (op_cat.or op_catA))
def gMod : R2 := fun x y H Q => rI (fun _ j => 0 < j) (fun i j => .int (i % j)) x y H Q
def gDiv : R2 := fun x y H Q => rI CDivW (fun i j => .int (i / j)) x y H Q
def gMul (K : PySem.W.Frag) : R2 := fun x y H Q => rI CMul (fun i j => .int (i * j)) x y H Q ∨ rRep x y H Q
theorem op_gMul : OpR X (binaryOp .Mult) (gMul X.K) := op_mul.or op_rep
def gEq (K : PySem.W.Frag) : R2 := fun x y H Q => rEq x y H Q ∨ rEqD K x y H Q
theorem op_gEq (hu : X.A.units + 64 < cLine) : OpR X (compareOp .Eq) (gEq X.K) := op_eq.or (op_eqD hu)
def gNe (K : PySem.W.Frag) : R2 := fun x y H Q => rNe x y H Q ∨ rNeD K x y H Q
theorem op_gNe (hu : X.A.units + 64 < cLine) : OpR X (compareOp .NotEq) (gNe X.K) := op_ne.or (op_neD hu)
def gLt (K : PySem.W.Frag) : R2 := fun x y H Q => rI0 (fun i j => .bl (decide (i < j))) x y H Q ∨ (∃ i j, x = .str i ∧ y = .str j ∧ Q (.bl (decide (i.cps.toList < j.cps.toList))) H)
theorem op_gLt : OpR X (compareOp .Lt) (gLt X.K) := op_lt.or op_lt_str
def gLe (K : PySem.W.Frag) : R2 := fun x y H Q => rI0 (fun i j => .bl (decide (i ≤ j))) x y H Q
def gGt (K : PySem.W.Frag) : R2 := fun x y H Q => rI0 (fun i j => .bl (decide (j < i))) x y H Q
def gGe (K : PySem.W.Frag) : R2 := fun x y H Q => rI0 (fun i j => .bl (decide (j ≤ i))) x y H Q
/-- is None, is not None -/
def gIs : R2 := fun x y H Q => y = .non ∧ Q (.bl (decide (x = .non))) H
def gIsNot : R2 := fun x y H Q => y = .non ∧ Q (.bl (!decide (x = .non))) H
/-- in -/
def gIn (K : PySem.W.Frag) : R2 := fun x y H Q => (∃ (c : Nat) (z : Str), x = .str ⟨#[c]⟩ ∧ y = .str z ∧ Q (.bl (decide (c ∈ z.cps.toList))) H) ∨ rIn K false x y H Q ∨ (∃ a o, y = .ref a ∧ DGet H a x o ∧ Q (.bl o.isSome) H)
def gNotIn (K : PySem.W.Frag) : R2 := fun x y H Q => (∃ (c : Nat) (z : Str), x = .str ⟨#[c]⟩ ∧ y = .str z ∧ Q (.bl (!decide (c ∈ z.cps.toList))) H) ∨ rIn K true x y H Q ∨ (∃ a o, y = .ref a ∧ DGet H a x o ∧ Q (.bl (!o.isSome)) H)
theorem op_dIn (hu : X.A.units + 1 < cLine) : OpR X (compareOp .In) (fun x y H Q => ∃ a o, y = .ref a ∧ DGet H a x o ∧ Q (.bl o.isSome) H) := by
  rintro pins s σ H x y v u Q I rx ry ⟨a, o, rfl, g, q⟩
  obtain rfl : u = Value.ref a := ry
  exact d_in hu I g rx fun s3 I3 => ⟨.bl o.isSome, H, I3, rfl, q⟩
theorem op_dNotIn (hu : X.A.units + 1 < cLine) : OpR X (compareOp .NotIn) (fun x y H Q => ∃ a o, y = .ref a ∧ DGet H a x o ∧ Q (.bl (!o.isSome)) H) := by
  rintro pins s σ H x y v u Q I rx ry ⟨a, o, rfl, g, q⟩
  obtain rfl : u = Value.ref a := ry
  exact d_notIn hu I g rx fun s3 I3 => ⟨.bl (!o.isSome), H, I3, rfl, q⟩
theorem op_gIn (hu : X.A.units + 1 < cLine) : OpR X (compareOp .In) (gIn X.K) := op_in_sign.or (op_in_seq.or (op_dIn hu))
theorem op_gNotIn (hu : X.A.units + 1 < cLine) : OpR X (compareOp .NotIn) (gNotIn X.K) := op_notIn_sign.or (op_notIn_seq.or (op_dNotIn hu))
/-- items -/
def gIx (K : PySem.W.Frag) : R2 := fun x y H Q => rIx K x y H Q ∨ (∃ a v, x = .ref a ∧ DGet H a y (some v) ∧ Q v H)
theorem ix_dict (hu : X.A.units + 1 < cLine) : IxR X (fun x y H Q => ∃ a v, x = .ref a ∧ DGet H a y (some v) ∧ Q v H) := by
  rintro value slice pins s σ H x y v u Q I rx ry ⟨a, z, rfl, g, q⟩ hs
  obtain rfl : v = Value.ref a := rx
  exact tail_any (dict_typeIs I g) PySem.F.slot_dict_getitem.lookup (d_getItem hu I g ry fun w' s3 I3 rw' => ⟨z, H, I3, rw', q⟩) hs
theorem ix_g (hu : X.A.units + 1 < cLine) : IxR X (gIx X.K) := ix_seq.or (ix_dict hu)
def gSl (K : PySem.W.Frag) : V → Option Int → Option Int → Hp → VK → Prop := fun x lo hi H Q => rSlS x lo hi H Q ∨ rSlL K x lo hi H Q ∨ rSlA K x lo hi H Q
theorem sl_g : SlR X (gSl X.K) := sl_str.or (sl_list.or sl_tupA)
/-- o[i] = v -/
def gSet : TSet := fun o i v H Q => rSetL o i v H Q ∨ ∃ a H', o = .ref a ∧ DPut H a i v H' ∧ Q H'
theorem PSet.or {t t' : TSet} (h : PSet X t) (h' : PSet X t') : PSet X (fun o i v H Q => t o i v H Q ∨ t' o i v H Q) := by
  intro pins s σ H o i v ov iv u Q I r1 r2 r3 q
  rcases q with q | q
  · exact h pins s σ H o i v ov iv u Q I r1 r2 r3 q
  · exact h' pins s σ H o i v ov iv u Q I r1 r2 r3 q
theorem set_g (hu : X.A.units + 1 < cLine) : PSet X gSet := PSet.or set_list (set_dict hu)
/-- what is walked -/
theorem PI.or {tg l : Expr} {w1 w2 : TI} (h : PI X tg l w1) (h' : PI X tg l w2) : PI X tg l (fun σ H R => w1 σ H R ∨ w2 σ H R) := by
  constructor
  intro pins s σ H R I q
  rcases q with q | q
  · exact h.run pins s σ H R I q
  · exact h'.run pins s σ H R I q
def iG (K : PySem.W.Frag) (tl : TE) : TI := fun σ H R => iList K tl σ H R ∨ iTup K tl σ H R ∨ iStr tl σ H R
theorem pi_g {tg l : Expr} {tl : TE} (h : PE X l tl) : PI X tg l (iG X.K tl) := PI.or (pi_list h) (PI.or (pi_tup h) (pi_str h))
/-- calls of built-ins by values -/
def gList (K : PySem.W.Frag) : List V → Hp → VK → Prop := fun xs H Q => (∃ p ys, xs = [.ref p] ∧ (SqL K H p ys ∨ SqT K H p ys) ∧ ∀ l, H l = none → Q (.ref l) (upd H l (.lst ys))) ∨
  (∃ (a : Addr) (kvs : List (Key × V)), xs = [.ref a] ∧ Rd H a (.dK kvs) ∧ ∀ p, H p = none → Q (.ref p) (upd H p (.lst (kvs.map fun kv => kV kv.1))))
theorem call_gList (hc : X.calm = true) : CallR X (.type "list") (gList X.K) := call_list_of.or (call_listD hc)
def gLen (K : PySem.W.Frag) : List V → Hp → VK → Prop := fun xs H Q => (∃ x n, xs = [x] ∧ LenV K x H n ∧ Q (.int n) H) ∨ (∃ a kvs, xs = [V.ref a] ∧ H a = some (.dK kvs) ∧ Q (.int kvs.length) H)
theorem call_gLen : CallR X (.builtin "len") (gLen X.K) := call_len.or call_lenD
def gIsi (K : PySem.W.Frag) : List V → Hp → VK → Prop := fun xs H Q => rIsi K xs H Q ∨ rIsiT K xs H Q
theorem call_gIsi : CallR X (.builtin "isinstance") (gIsi X.K) := call_isi.or call_isiT
end
end Gk

set_option maxRecDepth 100000
set_option maxHeartbeats 1000000
/-! steps through a reading -/
namespace Gk
open PySem PySem.Spec PyProof.Rows L2
section
variable {K : PySem.W.Frag} {X : Cx} {σ σ' : L2.St} {H : Hp} {Q : VK} {D : Ends} {i : Nat} {v x y : V} {ta tb tc te : TE} {tt tu : TT} {t u : TS} {tA tB' : TA} {r r' : R2} {L : List Cell} {R : List (List V × List T)} {W : WX} {sp : Sp} {dvs : List V} {g : TG} {QT : Bool → Hp → Prop} {b : Bool} {QA : List V → Hp → Prop}
theorem w_var (hv : σ[i]? = some (some v)) (q : Q v H) : tVar i σ H Q := ⟨v, hv, q⟩
def PartQ (QO : Option Int → Hp → Prop) (x : V) (H : Hp) : Prop := ∃ i, x = .int i ∧ QO (some i) H
theorem w_c (q : Q v H) : tC v σ H Q := q
theorem w_op (q : ta σ H fun x H1 => tb σ H1 fun y H2 => r x y H2 Q) : tOp r ta tb σ H Q := q
theorem w_un {r : V → Hp → VK → Prop} (q : ta σ H fun x H1 => r x H1 Q) : tUn r ta σ H Q := q
theorem w_neg {j : Int} (q : Q (.int (-j)) H) : rU (fun i => .int (-i)) (.int j) H Q := ⟨j, rfl, q⟩
theorem w_cons (q : ta σ H fun x H1 => tA σ H1 fun xs H2 => QA (x :: xs) H2) : tCons ta tA σ H QA := q
theorem w_nil (q : QA [] H) : tNil σ H QA := q
theorem w_tTest (q : ta σ H fun x H' => ∃ k, x = .bl k ∧ QT k H') : tTest ta σ H QT := q
theorem w_tB (q : ta σ H fun x H' => ∃ k, x = .bl k ∧ QT k H') : tB ta σ H QT := q
theorem w_exk (q : QT b H) : ∃ k, V.bl b = .bl k ∧ QT k H := ⟨b, rfl, q⟩
def tTruG (K : PySem.W.Frag) (ta : TE) : TT := fun σ H Q => ta σ H fun x H' => ∃ k, TruV K x H' k ∧ Q k H'
theorem pt_tru {a : Expr} (ha : PE X a ta) (he : ∀ whole, isTrue a X.env whole = (do let v ← whole; standAt a.pos; holding [v] (truthy v)) := by intro _; rfl) : PT X a (tTruG X.K ta) := pt_truth ha he
def TruQ (K : PySem.W.Frag) (QT : Bool → Hp → Prop) (x : V) (H : Hp) : Prop := ∃ k, TruV K x H k ∧ QT k H
theorem w_tru (q : ta σ H fun x H' => TruQ K QT x H') : tTruG K ta σ H QT := q
theorem w_truB (q : QT b H) : TruQ K QT (.bl b) H := ⟨b, rfl, q⟩
theorem w_and (q : tt σ H fun c H1 => if c = true then tu σ H1 QT else QT false H1) : tAnd tt tu σ H QT := q
theorem w_or (q : tt σ H fun c H1 => if c = true then QT true H1 else tu σ H1 QT) : tOr tt tu σ H QT := q
theorem w_not (q : tt σ H fun c H1 => QT (!c) H1) : tNot tt σ H QT := q
theorem w_andV (q : ta σ H fun x H1 => ∃ c, x = .bl c ∧ if c = true then tb σ H1 Q else Q (.bl false) H1) : tAndV ta tb σ H Q := q
theorem w_orV (q : ta σ H fun x H1 => ∃ c, x = .bl c ∧ if c = true then Q (.bl true) H1 else tb σ H1 Q) : tOrV ta tb σ H Q := q
theorem w_notV (q : ta σ H fun x H1 => ∃ c, x = .bl c ∧ Q (.bl (!c)) H1) : tNotV ta σ H Q := q
theorem w_exb {P : Bool → Prop} (q : P b) : ∃ c, V.bl b = .bl c ∧ P c := ⟨b, rfl, q⟩
theorem w_ifE (q : tt σ H fun c H1 => if c = true then ta σ H1 Q else tb σ H1 Q) : tIf tt ta tb σ H Q := q
theorem w_ite {A B : Prop} (h1 : b = true → A) (h0 : b = false → B) : if b = true then A else B := by
  cases b with
  | true => exact h1 rfl
  | false => exact h0 rfl
theorem w_iteD {A B c : Prop} [Decidable c] (h1 : c → A) (h0 : ¬ c → B) : if decide c = true then A else B := by
  by_cases h : c
  · rw [if_pos (decide_eq_true h)]; exact h1 h
  · rw [if_neg (by simpa using h)]; exact h0 h
theorem w_iteN {A B c : Prop} [Decidable c] (h1 : c → B) (h0 : ¬ c → A) : if (!decide c) = true then A else B := by
  by_cases h : c
  · rw [if_neg (by simpa using h)]; exact h1 h
  · rw [if_pos (by simpa using h)]; exact h0 h
theorem w_iteNN {A B : Prop} (q : if b = true then B else A) : if (!b) = true then A else B := by
  cases b <;> simpa using q
theorem w_ifT {A B : Prop} (q : A) : if true = true then A else B := by rw [if_pos rfl]; exact q
theorem w_ifF {A B : Prop} (q : B) : if false = true then A else B := by rw [if_neg (by decide)]; exact q
theorem w_ifnT {A B : Prop} (q : B) : if (!true) = true then A else B := q
theorem w_ifnF {A B : Prop} (q : A) : if (!false) = true then A else B := q
theorem w_chain (q : ta σ H fun x H1 => tb σ H1 fun y H2 => r x y H2 fun z H3 => ∃ k, z = .bl k ∧ (if k = true then tc σ H3 fun w' H4 => r' y w' H4 Q else Q (.bl false) H3)) : tChain r r' ta tb tc σ H Q := q
/-! statements -/
theorem w_seq (q : t { D with nx := u D } σ H) : tSeq t u D σ H := q
theorem w_next (q : D.nx σ H) : tNext D σ H := q
theorem w_ret (q : te σ H D.rt) : tRet te D σ H := q
theorem w_retN (q : D.rt .non H) : tRetN D σ H := q
theorem w_drop (q : te σ H fun _ H1 => D.nx σ H1) : tDrop te D σ H := q
theorem w_asg (q : te σ H fun x H1 => g x σ H1 D.nx) : tAsg te g D σ H := q
theorem w_gn {P : L2.St → Hp → Prop} (e : σ.set i (some v) = σ') (q : P σ' H) : gName i v σ H P := by
  subst e; exact q
theorem w_ifS (q : tt σ H fun c H1 => if c = true then t D σ H1 else u D σ H1) : tIfS tt t u D σ H := q
theorem w_brk (q : D.bk σ H) : tBreak D σ H := q
theorem w_cont (q : D.ct σ H) : tCont D σ H := q
theorem w_sub {to ti : TE} {ts : TSet} {P : L2.St → Hp → Prop} (q : to σ H fun o H1 => ti σ H1 fun i H2 => ts o i v H2 fun H3 => P σ H3) : gSub to ti ts v σ H P := q
/-! values -/
theorem w_addI {i j : Int} (q : Q (.int (i + j)) H) : gAdd K (.int i) (.int j) H Q := .inl ⟨i, j, rfl, rfl, q⟩
theorem w_addS {i j : Str} (sz : i.length + j.length ≤ sizeLine) (q : Q (.str (i ++ j)) H) : gAdd K (.str i) (.str j) H Q := .inr (.inl ⟨i, j, rfl, rfl, sz, q⟩)
theorem w_addL {p q' : Addr} {xs ys : List V} (hS : S K H L R) (h1 : H p = some (.lst xs)) (h2 : H q' = some (.lst ys)) (sz : xs.length + ys.length ≤ sizeLine) (q : ∀ r H', S K H' ((r, .lst (xs ++ ys)) :: L) R → Q (.ref r) H') : gAdd K (.ref p) (.ref q') H Q :=
  .inr (.inr (.inl ⟨p, q', xs, ys, rfl, rfl, h1, h2, sz, fun r hr => q r _ (hS.new hr _)⟩))
theorem w_subI {i j : Int} (q : Q (.int (i - j)) H) : rI0 (fun i j => .int (i - j)) (.int i) (.int j) H Q := ⟨i, j, rfl, rfl, q⟩
theorem w_mulI {i j : Int} (c : CMul i j) (q : Q (.int (i * j)) H) : gMul K (.int i) (.int j) H Q := .inl ⟨i, j, rfl, rfl, c, q⟩
theorem w_modI {i j : Int} (c : 0 < j) (q : Q (.int (i % j)) H) : gMod (.int i) (.int j) H Q := ⟨i, j, rfl, rfl, c, q⟩
theorem w_divI {i j : Int} (c : CDivW i j) (q : Q (.int (i / j)) H) : gDiv (.int i) (.int j) H Q := ⟨i, j, rfl, rfl, c, q⟩
theorem w_powI {i j : Int} (c : CPow i j) (q : Q (.int (i ^ j.toNat)) H) : rI CPow (fun i j => .int (i ^ j.toNat)) (.int i) (.int j) H Q := ⟨i, j, rfl, rfl, c, q⟩
theorem w_eqI {i j : Int} (q : Q (.bl (decide (i = j))) H) : gEq K (.int i) (.int j) H Q := .inl ⟨rfl, by rw [show decide (V.int i = V.int j) = decide (i = j) by by_cases h : i = j <;> simp [h]]; exact q⟩
theorem w_eqS {i j : Str} (q : Q (.bl (decide (i = j))) H) : gEq K (.str i) (.str j) H Q := .inl ⟨rfl, by rw [show decide (V.str i = V.str j) = decide (i = j) by by_cases h : i = j <;> simp [h]]; exact q⟩
theorem w_eqB {i j : Bool} (q : Q (.bl (decide (i = j))) H) : gEq K (.bl i) (.bl j) H Q := .inl ⟨rfl, by rw [show decide (V.bl i = V.bl j) = decide (i = j) by by_cases h : i = j <;> simp [h]]; exact q⟩
theorem w_neI {i j : Int} (q : Q (.bl (!decide (i = j))) H) : gNe K (.int i) (.int j) H Q := .inl ⟨rfl, by rw [show decide (V.int i = V.int j) = decide (i = j) by by_cases h : i = j <;> simp [h]]; exact q⟩
theorem w_neS {i j : Str} (q : Q (.bl (!decide (i = j))) H) : gNe K (.str i) (.str j) H Q := .inl ⟨rfl, by rw [show decide (V.str i = V.str j) = decide (i = j) by by_cases h : i = j <;> simp [h]]; exact q⟩
theorem w_eqDt {d e : PyData} (h1 : Dp K H x d) (h2 : Dp K H y e) (s1 : SeqAt.shaped d = true) (s2 : SeqAt.shaped e = true) (q : Q (.bl (PyData.eqv d e)) H) : gEq K x y H Q := .inr ⟨d, e, h1, h2, s1, s2, q⟩
theorem w_neDt {d e : PyData} (h1 : Dp K H x d) (h2 : Dp K H y e) (s1 : SeqAt.shaped d = true) (s2 : SeqAt.shaped e = true) (q : Q (.bl (!PyData.eqv d e)) H) : gNe K x y H Q := .inr ⟨d, e, h1, h2, s1, s2, q⟩
theorem w_ltI {i j : Int} (q : Q (.bl (decide (i < j))) H) : gLt K (.int i) (.int j) H Q := .inl ⟨i, j, rfl, rfl, q⟩
theorem w_ltS {i j : Str} (q : Q (.bl (decide (i.cps.toList < j.cps.toList))) H) : gLt K (.str i) (.str j) H Q := .inr ⟨i, j, rfl, rfl, q⟩
theorem w_leI {i j : Int} (q : Q (.bl (decide (i ≤ j))) H) : gLe K (.int i) (.int j) H Q := ⟨i, j, rfl, rfl, q⟩
theorem w_gtI {i j : Int} (q : Q (.bl (decide (j < i))) H) : gGt K (.int i) (.int j) H Q := ⟨i, j, rfl, rfl, q⟩
theorem w_geI {i j : Int} (q : Q (.bl (decide (j ≤ i))) H) : gGe K (.int i) (.int j) H Q := ⟨i, j, rfl, rfl, q⟩
theorem w_isN (e : decide (x = .non) = b) (q : Q (.bl b) H) : gIs x .non H Q := ⟨rfl, by rw [e]; exact q⟩
theorem w_isNotN (e : (!decide (x = .non)) = b) (q : Q (.bl b) H) : gIsNot x .non H Q := ⟨rfl, by rw [e]; exact q⟩
theorem w_isR {p : Addr} (q : Q (.bl false) H) : gIs (.ref p) .non H Q := ⟨rfl, by rw [show decide (V.ref p = V.non) = false from decide_eq_false (by simp)]; exact q⟩
theorem w_isnR {p : Addr} (q : Q (.bl true) H) : gIsNot (.ref p) .non H Q := ⟨rfl, by rw [show decide (V.ref p = V.non) = false from decide_eq_false (by simp)]; exact q⟩
theorem w_isS {z : Str} (q : Q (.bl false) H) : gIs (.str z) .non H Q := ⟨rfl, by rw [show decide (V.str z = V.non) = false from decide_eq_false (by simp)]; exact q⟩
theorem w_isnS {z : Str} (q : Q (.bl true) H) : gIsNot (.str z) .non H Q := ⟨rfl, by rw [show decide (V.str z = V.non) = false from decide_eq_false (by simp)]; exact q⟩
theorem w_isI {j : Int} (q : Q (.bl false) H) : gIs (.int j) .non H Q := ⟨rfl, by rw [show decide (V.int j = V.non) = false from decide_eq_false (by simp)]; exact q⟩
theorem w_isnI {j : Int} (q : Q (.bl true) H) : gIsNot (.int j) .non H Q := ⟨rfl, by rw [show decide (V.int j = V.non) = false from decide_eq_false (by simp)]; exact q⟩
theorem w_isB {c : Bool} (q : Q (.bl false) H) : gIs (.bl c) .non H Q := ⟨rfl, by rw [show decide (V.bl c = V.non) = false from decide_eq_false (by simp)]; exact q⟩
theorem w_isnB {c : Bool} (q : Q (.bl true) H) : gIsNot (.bl c) .non H Q := ⟨rfl, by rw [show decide (V.bl c = V.non) = false from decide_eq_false (by simp)]; exact q⟩
theorem w_isO (q : Q (.bl true) H) : gIs .non .non H Q := ⟨rfl, by rw [show decide (V.non = V.non) = true from decide_eq_true rfl]; exact q⟩
theorem w_isnO (q : Q (.bl false) H) : gIsNot .non .non H Q := ⟨rfl, by rw [show decide (V.non = V.non) = true from decide_eq_true rfl]; exact q⟩
theorem w_inS {c : Nat} {z : Str} (q : Q (.bl (decide (c ∈ z.cps.toList))) H) : gIn K (.str ⟨#[c]⟩) (.str z) H Q := .inl ⟨c, z, rfl, rfl, q⟩
theorem w_notInS {c : Nat} {z : Str} (q : Q (.bl (!decide (c ∈ z.cps.toList))) H) : gNotIn K (.str ⟨#[c]⟩) (.str z) H Q := .inl ⟨c, z, rfl, rfl, q⟩
theorem inV_str {s : Str} {ss : List Str} : inV (.str s) (ss.map V.str) = decide (s ∈ ss) := by
  unfold inV
  induction ss with
  | nil => rfl
  | cons a r ih =>
    rw [List.map_cons, List.any_cons, ih]
    by_cases h : s = a
    · subst h; simp [eqV]
    · have h' : ¬ a = s := fun z => h z.symm
      simp [eqV, h, h']
theorem flat_strs {ss : List Str} : (ss.map V.str).all flatV = true := by
  rw [List.all_eq_true]; intro x hx; obtain ⟨s, _, rfl⟩ := List.mem_map.mp hx; rfl
theorem w_inL {s : Str} {ss : List Str} {p : Addr} (h : SqL K H p (ss.map V.str) ∨ SqT K H p (ss.map V.str)) (q : Q (.bl (decide (s ∈ ss))) H) : gIn K (.str s) (.ref p) H Q :=
  .inr (.inl ⟨p, _, rfl, h, rfl, flat_strs, by rw [inV_str]; exact q⟩)
theorem w_notInL {s : Str} {ss : List Str} {p : Addr} (h : SqL K H p (ss.map V.str) ∨ SqT K H p (ss.map V.str)) (q : Q (.bl (!decide (s ∈ ss))) H) : gNotIn K (.str s) (.ref p) H Q :=
  .inr (.inl ⟨p, _, rfl, h, rfl, flat_strs, by rw [inV_str]; exact q⟩)
theorem w_ixL {p : Addr} {xs : List V} {i : Int} (h : SqL K H p xs) (e : atI xs i = some v) (q : Q v H) : gIx K (.ref p) (.int i) H Q := .inl (.inl ⟨p, xs, i, v, rfl, rfl, h, e, q⟩)
theorem w_ixT {p : Addr} {xs : List V} {i : Int} (h : SqT K H p xs) (e : atI xs i = some v) (q : Q v H) : gIx K (.ref p) (.int i) H Q := .inl (.inr (.inl ⟨p, xs, i, v, rfl, rfl, h, e, q⟩))
theorem w_ixS {z : Str} {i : Int} {c : Nat} (sz : z.length ≤ sizeLine) (e : atI z.cps.toList i = some c) (q : Q (.str ⟨#[c]⟩) H) : gIx K (.str z) (.int i) H Q := .inl (.inr (.inr ⟨z, i, c, rfl, rfl, sz, e, q⟩))
theorem w_slS {z : Str} {lo hi : Option Int} (sz : z.length ≤ sizeLine) (q : Q (.str (cutS z lo hi)) H) : gSl K (.str z) lo hi H Q := .inl ⟨z, rfl, sz, q⟩
theorem w_slL {p : Addr} {xs : List V} {lo hi : Option Int} (hS : S K H L R) (h : SqL K H p xs) (q : ∀ r H', S K H' ((r, .lst (cutV xs lo hi)) :: L) R → Q (.ref r) H') : gSl K (.ref p) lo hi H Q :=
  .inr (.inl ⟨p, xs, rfl, h, fun r hr => q r _ (hS.new hr _)⟩)
def LstQ (Q : VK) (xs : List V) (H : Hp) : Prop := xs.length ≤ sizeLine ∧ ∀ p, H p = none → Q (.ref p) (upd H p (.lst xs))
def TupQ (Q : VK) (xs : List V) (H : Hp) : Prop := xs.length ≤ sizeLine ∧ ∀ p, H p = none → Q (.ref p) (upd H p (.tup xs))
theorem w_lst {vs : List V} (hS : S K H L R) (sz : vs.length ≤ sizeLine) (q : ∀ p H', S K H' ((p, .lst vs) :: L) R → Q (.ref p) H') : LstQ Q vs H :=
  ⟨sz, fun p hp => q p _ (hS.new hp _)⟩
theorem w_tup {vs : List V} (hS : S K H L R) (sz : vs.length ≤ sizeLine) (q : ∀ p H', S K H' ((p, .tup vs) :: L) R → Q (.ref p) H') : TupQ Q vs H :=
  ⟨sz, fun p hp => q p _ (hS.new hp _)⟩
theorem w_tLst (q : tA σ H fun xs H1 => LstQ Q xs H1) : tLst tA σ H Q := q
theorem w_tTup (q : tA σ H fun xs H1 => TupQ Q xs H1) : tTup tA σ H Q := q
theorem w_dnew (hS : S K H L R) (q : ∀ p H', S K H' ((p, .dK []) :: L) R → Q (.ref p) H') : tDNewK σ H Q := fun p hp => q p _ (hS.new hp _)
/-! calls -/
theorem w_cb {r : List V → Hp → VK → Prop} (q : tA σ H fun vs H1 => r vs H1 Q) : tCB r tA σ H Q := q
theorem w_lenS {z : Str} (sz : z.length ≤ sizeLine) (q : Q (.int z.length) H) : gLen K [.str z] H Q := .inl ⟨_, _, rfl, ⟨sz, rfl⟩, q⟩
theorem w_lenL {p : Addr} {xs : List V} (h : SqL K H p xs) (q : Q (.int xs.length) H) : gLen K [.ref p] H Q := .inl ⟨_, _, rfl, .inl ⟨xs, h, rfl⟩, q⟩
theorem w_lenT {p : Addr} {xs : List V} (h : SqT K H p xs) (q : Q (.int xs.length) H) : gLen K [.ref p] H Q := .inl ⟨_, _, rfl, .inr ⟨xs, h, rfl⟩, q⟩
theorem w_max2 {i j : Int} (q : Q (.int (if j > i then j else i)) H) : (fun (xs : List V) (H : Hp) (Q : VK) => ∃ i j, xs = [.int i, .int j] ∧ Q (.int (if j > i then j else i)) H) [.int i, .int j] H Q := ⟨i, j, rfl, q⟩
theorem w_g (q : tA σ H fun vs H1 => sp (vs ++ dvs) H1 Q (fun c d H' => W c d σ H')) : tG sp dvs W tA σ H Q := q
theorem w_bm {T : String} {r : V → List V → Hp → VK → Prop} (q : te σ H fun x H1 => tyV K T x H1 ∧ tA σ H1 fun xs H2 => r x xs H2 Q) : tBM K T r te tA σ H Q := q
theorem w_bm0 {T : String} {r : V → List V → Hp → VK → Prop} (q : te σ H fun x H1 => tyV K T x H1 ∧ r x [] H1 Q) : tBM0 K T r te σ H Q := q
theorem w_m0 {r : V → List V → Hp → VK → Prop} (q : te σ H fun x H1 => (∃ a, x = .str a) ∧ r x [] H1 Q) : tM0 r te σ H Q := q
theorem w_m1 {r : V → List V → Hp → VK → Prop} (q : te σ H fun x H1 => (∃ a, x = .str a) ∧ tb σ H1 fun y H2 => r x [y] H2 Q) : tM1 r te tb σ H Q := q
theorem w_isStr {P : Prop} {a : Str} (q : P) : (∃ z, V.str a = .str z) ∧ P := ⟨⟨a, rfl⟩, q⟩
theorem w_isLst {P : Prop} {p : Addr} {xs : List V} (h : H p = some (.lst xs)) (q : P) : tyV K "list" (.ref p) H ∧ P := ⟨.inl ⟨rfl, xs, .of h⟩, q⟩
theorem w_nopart {QO : Option Int → Hp → Prop} (q : QO none H) : tNoPart σ H QO := q
theorem w_part {QO : Option Int → Hp → Prop} (q : te σ H fun x H' => PartQ QO x H') : tPart te σ H QO := q
theorem w_partI {QO : Option Int → Hp → Prop} {i : Int} (q : QO (some i) H) : PartQ QO (.int i) H := ⟨i, rfl, q⟩
theorem w_sl {r : V → Option Int → Option Int → Hp → VK → Prop} {tl th : TO} (q : te σ H fun x H1 => tl σ H1 fun l H2 => th σ H2 fun u H3 => r x l u H3 Q) : tSl r te tl th σ H Q := q
end
end Gk

set_option maxRecDepth 100000
set_option maxHeartbeats 1000000
/-! defs of the text as they may be called; the module's constants; more rules -/
namespace Gk
open PySem PySem.Spec PyProof.Rows L2
def RawF (K : PySem.W.Frag) (mg : Str → Option Value) (x : Str) (st : Stmt) : Prop := ∃ f fd, L2.Fun K x x st f fd ∧ mg x = some (.ref f)
theorem raw_mk {K : PySem.W.Frag} {h : Heap} {mg : Str → Option Value} {x : Str} {st : Stmt} {f : Addr} {oc : Value} {od an : Option Addr} {osl : Array (Option Value)} {kV dc pm cd ct : Value} (kin : K.In h) (g : h.Ns mainGlobals mg)
    (a : PySem.W.nsIn K mainGlobals x = some (some (.ref f))) (l : K.lookup f = some ⟨oc, od, .func (PySem.W.fnOf x x (defArgs st) (defBody st) (defScope st) .none kV dc pm an cd ct), osl⟩)
    (c : PySem.W.codeIn K cd x = true) (k : PySem.W.keepIn K (.ref f) = true) : RawF K mg x st := ⟨f, _, fun_mk l c k, PySem.W.mg_of kin g a⟩
structure Cal (P : Program) (w : World) (K : PySem.W.Frag) (mg : Str → Option Value) (base : Heap) (x : Str) (k : Nat) (ps : List Str) (dvs : List V) (sp : Sp) : Prop where
  ex : ∃ f fd ds, mg x = some (.ref f) ∧ PySem.W.keepIn K (.ref f) = true ∧ L2.Binds K fd ps ds ∧ Vals dvs ds ∧ FnG P w K mg base k f fd ps sp
abbrev CalX (X : Cx) (x : Str) (k : Nat) (ps : List Str) (dvs : List V) (sp : Sp) : Prop := Cal X.prog X.w X.K X.mg X.base x k ps dvs sp
section
variable {P : Program} {w : World} {K : PySem.W.Frag} {mg : Str → Option Value} {base : Heap} {k j : Nat} {x : Str} {st : Stmt} {N ps : List Str} {dvs : List V} {sp sp' : Sp}
theorem Cal.imp (c : Cal P w K mg base x k ps dvs sp) (h : ∀ vs H Q E, sp' vs H Q E → sp vs H Q E) : Cal P w K mg base x k ps dvs sp' := by
  obtain ⟨f, fd, ds, a, b, d, e, F⟩ := c
  exact ⟨f, fd, ds, a, b, d, e, F.imp h⟩
theorem Cal.mk' (raw : RawF K mg x st) (Sc : FnScope N ps (defScope st)) (len : ∀ vs H Q E, sp vs H Q E → vs.length = ps.length)
    (bind : ∀ (kV doc pm : Value) (an : Option Addr) (cdv ct : Value) (us : List Value), us.length = ps.length → bindArgs (PySem.W.fnOf x x (defArgs st) (defBody st) (defScope st) .none kV doc pm an cdv ct) ⟨us, []⟩ = pure (ps.zip us))
    (hb : ∀ (f : Addr) (cd : Value) (A : Around) (out : List Env) (s : Shared) (H : Hp) (vs : List V) (Q : VK) (E : XK), Rm k (A.deeper (envOfC x (defScope st) s.heap.objs.size f cd)) → sp vs H Q E →
      ∃ t, PSs (cxG P w K mg base N x (defScope st) f cd A out s H E) (defBody st) t ∧ t { nx := fun _ H' => Q .non H', rt := Q } (start N vs) H) : Cal P w K mg base x (k + 1) ps [] sp := by
  obtain ⟨f, fd, F, hm⟩ := raw
  exact ⟨f, fd, [], hm, F.kp, F.binds bind, .nil, Fun.okG F Sc len (fun cd A out s H vs Q E rm h => hb f cd A out s H vs Q E rm h)⟩
end
section
variable {X : Cx} {x : Str} {k : Nat} {ps : List Str} {dvs : List V} {sp : Sp} {W : WX} {p pos : Pos} {e : Expr} {es : List Expr} {t : TA}
theorem pe_cal (c : CalX X x k ps dvs sp) (rm : Rm k X.A) (tk : Takes X W) (ha : PA X (e :: es) t)
    (hg : Gl X x := by rfl) (hdb : (x == ("__debug__" : Str)) = false := by decide) (he : starEach (e :: es) X.env = (false, eval e X.env) :: starEach es X.env := by rfl) (hpl : (backTo pos (starEach es X.env)).any (·.1) = false := by rfl) :
    PE X (.Call (.Name x p) (e :: es) [] pos) (tG sp dvs W t) := by
  obtain ⟨f, fd, ds, a, b, d, e', F⟩ := c
  exact pe_g F rm tk a b d e' ha hg hdb he hpl
theorem pe_cal0 (c : CalX X x k ps dvs sp) (rm : Rm k X.A) (tk : Takes X W) (hg : Gl X x := by rfl) (hdb : (x == ("__debug__" : Str)) = false := by decide) : PE X (.Call (.Name x p) [] [] pos) (tG sp dvs W tNil) := by
  obtain ⟨f, fd, ds, a, b, d, e', F⟩ := c
  exact pe_g0 F rm tk a b d e' hg hdb
/-- the module's texts and numbers -/
theorem pe_gs {z : Str} (h : ∃ t, X.mg x = some (.str z t)) (hg : Gl X x := by rfl) (hd : (x == ("__debug__" : Str)) = false := by decide) : PE X (.Name x pos) (tC (.str z)) := by
  obtain ⟨u, h⟩ := h
  exact pe_glob hg h ⟨_, rfl⟩ hd
theorem pe_gi {z : Int} (h : ∃ t, X.mg x = some (.int z t)) (hg : Gl X x := by rfl) (hd : (x == ("__debug__" : Str)) = false := by decide) : PE X (.Name x pos) (tC (.int z)) := by
  obtain ⟨u, h⟩ := h
  exact pe_glob hg h ⟨_, rfl⟩ hd
/-- an own class, as a value -/
theorem pe_gc {C : Addr} (h : X.mg x = some (.ref C)) (hg : Gl X x := by rfl) (hd : (x == ("__debug__" : Str)) = false := by decide) : PE X (.Name x pos) (tC (.ref C)) := pe_glob hg h rfl hd
theorem pe_ty {T : String} (hm : X.mg x = none) (hv : bootBuiltins x = some (.type T)) (hg : Gl X x := by rfl) (hn : x ≠ "__name__" := by decide) (hd : (x == ("__debug__" : Str)) = false := by decide) : PE X (.Name x pos) (tC (.ty T)) := pe_bltn hg hm hv rfl hn hd
end
section
variable {X : Cx} {K : PySem.W.Frag}
/-- the same, said of K -/
theorem op_k {f : Value → Value → Sem Value} (r : PySem.W.Frag → R2) (K : PySem.W.Frag) (e : X.K = K) (h : OpR X f (r X.K)) : OpR X f (r K) := e ▸ h
theorem ix_k (r : PySem.W.Frag → R2) (K : PySem.W.Frag) (e : X.K = K) (h : IxR X (r X.K)) : IxR X (r K) := e ▸ h
theorem sl_k (r : PySem.W.Frag → V → Option Int → Option Int → Hp → VK → Prop) (K : PySem.W.Frag) (e : X.K = K) (h : SlR X (r X.K)) : SlR X (r K) := e ▸ h
theorem cr_k {f : Value} (r : PySem.W.Frag → List V → Hp → VK → Prop) (K : PySem.W.Frag) (e : X.K = K) (h : CallR X f (r X.K)) : CallR X f (r K) := e ▸ h
theorem pt_truk {a : Expr} {ta : TE} (e : X.K = K) (h : PT X a (tTruG X.K ta)) : PT X a (tTruG K ta) := e ▸ h
theorem bm_k {x : Expr} {T : String} {r : V → List V → Hp → VK → Prop} {te : TE} {tA : TA} (e : X.K = K) (h : PE X x (tBM X.K T r te tA)) : PE X x (tBM K T r te tA) := e ▸ h
theorem bm0_k {x : Expr} {T : String} {r : V → List V → Hp → VK → Prop} {te : TE} (e : X.K = K) (h : PE X x (tBM0 X.K T r te)) : PE X x (tBM0 K T r te) := e ▸ h
theorem pi_k {tg l : Expr} {tl : TE} (e : X.K = K) (h : PI X tg l (iG X.K tl)) : PI X tg l (iG K tl) := e ▸ h
end
section
variable {X : Cx}
def gMinus : R2 := rI0 (fun i j => .int (i - j))
theorem op_gMinus : OpR X (binaryOp .Sub) gMinus := op_sub
theorem op_gMod : OpR X (binaryOp .Mod) gMod := op_mod
theorem op_gDiv : OpR X (binaryOp .FloorDiv) gDiv := op_fdivW
def gPow : R2 := rI CPow fun i j => .int (i ^ j.toNat)
theorem op_gPow : OpR X (binaryOp .Pow) gPow := op_pow
theorem op_gLe : OpR X (compareOp .LtE) (gLe X.K) := op_le
theorem op_gGt : OpR X (compareOp .Gt) (gGt X.K) := op_gt
theorem op_gGe : OpR X (compareOp .GtE) (gGe X.K) := op_ge
theorem op_gIs : OpR X (compareOp .Is) gIs := op_isN
theorem op_gIsNot : OpR X (compareOp .IsNot) gIsNot := op_notN
def gNeg : V → Hp → VK → Prop := rU fun i => .int (-i)
theorem un_gNeg : UnR X (unaryOp .USub) gNeg := un_neg
def gMax : List V → Hp → VK → Prop := fun xs H Q => ∃ i j, xs = [.int i, .int j] ∧ Q (.int (max i j)) H
def gMin : List V → Hp → VK → Prop := fun xs H Q => ∃ i j, xs = [.int i, .int j] ∧ Q (.int (min i j)) H
theorem call_gMax (hc : X.calm = true) : CallR X (.builtin "max") gMax := CallR.imp (call_max2 hc) fun xs H Q ⟨i, j, e, q⟩ => ⟨i, j, e, by rw [show (if j > i then j else i) = max i j by split <;> omega]; exact q⟩
theorem call_gMin (hc : X.calm = true) : CallR X (.builtin "min") gMin := CallR.imp (call_min2 hc) fun xs H Q ⟨i, j, e, q⟩ => ⟨i, j, e, by rw [show (if j < i then j else i) = min i j by split <;> omega]; exact q⟩
variable {σ : L2.St} {H : Hp} {Q : VK} {K : PySem.W.Frag} {L : List Cell} {R : List (List V × List T)}
theorem w_max {i j : Int} (q : Q (.int (max i j)) H) : gMax [.int i, .int j] H Q := ⟨i, j, rfl, q⟩
theorem w_min {i j : Int} (q : Q (.int (min i j)) H) : gMin [.int i, .int j] H Q := ⟨i, j, rfl, q⟩
theorem w_minus {i j : Int} (q : Q (.int (i - j)) H) : gMinus (.int i) (.int j) H Q := ⟨i, j, rfl, rfl, q⟩
theorem w_pow {i j : Int} (c : CPow i j) (q : Q (.int (i ^ j.toNat)) H) : gPow (.int i) (.int j) H Q := ⟨i, j, rfl, rfl, c, q⟩
theorem w_gneg {j : Int} (q : Q (.int (-j)) H) : gNeg (.int j) H Q := ⟨j, rfl, q⟩
/-- xs.append(y), xs the front cell -/
theorem w_append {p : Addr} {xs : List V} {y : V} (hS : S K H ((p, .lst xs) :: L) R) (sz : xs.length < sizeLine) (q : ∀ H', S K H' ((p, .lst (xs ++ [y])) :: L) R → Q .non H') : rAppend (.ref p) [y] H Q :=
  ⟨p, xs, y, rfl, rfl, hS.cell, sz, q _ (hS.put _)⟩
theorem w_reverse {p : Addr} {xs : List V} (hS : S K H ((p, .lst xs) :: L) R) (q : ∀ H', S K H' ((p, .lst xs.reverse) :: L) R → Q .non H') : rReverse (.ref p) [] H Q :=
  ⟨p, xs, rfl, rfl, hS.cell, q _ (hS.put _)⟩
theorem w_setL {p : Addr} {xs : List V} {i : Int} {j : Nat} {y : V} {P : Hp → Prop} (hS : S K H ((p, .lst xs) :: L) R) (e : ixN xs.length i = some j) (q : ∀ H', S K H' ((p, .lst (xs.set j y)) :: L) R → P H') : gSet (.ref p) (.int i) y H P :=
  .inl ⟨p, xs, i, j, rfl, rfl, hS.cell, e, q _ (hS.put _)⟩
end
end Gk

namespace Gk
open PySem PySem.Spec PyProof.Rows L2
/-- what «except D» says of an error of the class at C -/
theorem exm_mk {K : PySem.W.Frag} {C D : Addr} {b : Bool} (h1 : PySem.W.subIn K (.ref D) (.type "BaseException") = some true) (h2 : PySem.W.isClsIn K D = true) (h3 : PySem.W.typeIn K (.ref D) = some (.type "type"))
    (h4 : PySem.W.subIn K (.ref C) (.ref D) = some b) : PySem.W.exmOne K (.ref C) (.ref D) = some b := by
  have a1 : (PySem.W.subIn K (.ref D) (.type "BaseException") == some true) = true := by rw [h1] <;> rfl
  have a2 : ((PySem.W.clsIn K D).isSome && PySem.W.typeIn K (.ref D) == some (.type "type")) = true := by
    have z : (PySem.W.clsIn K D).isSome = true := h2
    rw [z, h3] <;> rfl
  show (if (PySem.W.subIn K (.ref D) (.type "BaseException") == some true) = true then (if ((PySem.W.clsIn K D).isSome && PySem.W.typeIn K (.ref D) == some (.type "type")) = true then PySem.W.subIn K (.ref C) (.ref D) else none) else none) = some b
  rw [if_pos a1, if_pos a2]
  exact h4
end Gk

set_option maxRecDepth 100000
set_option maxHeartbeats 1000000
namespace Gk
open PySem PySem.Spec PyProof.Rows L2
section
variable {K : PySem.W.Frag} {H : Hp} {L : List Cell} {R : List (List V × List T)}
theorem S.f2 {a b c : Cell} (s : S K H (a :: b :: c :: L) R) : S K H (c :: a :: b :: L) R := S.mid (L1 := [a, b]) s
theorem S.f3 {a b c d : Cell} (s : S K H (a :: b :: c :: d :: L) R) : S K H (d :: a :: b :: c :: L) R := S.mid (L1 := [a, b, c]) s
theorem S.f4 {a b c d e : Cell} (s : S K H (a :: b :: c :: d :: e :: L) R) : S K H (e :: a :: b :: c :: d :: L) R := S.mid (L1 := [a, b, c, d]) s
theorem S.f5 {a b c d e f : Cell} (s : S K H (a :: b :: c :: d :: e :: f :: L) R) : S K H (f :: a :: b :: c :: d :: e :: L) R := S.mid (L1 := [a, b, c, d, e]) s
end
def onlyH (H : Hp) (a : Addr) : Hp := fun b => if b = a then H a else none
/-- the state at the law's own call -/
theorem S.script {K : PySem.W.Frag} {H : Hp} {a : Addr} {ns : List Int} (h : SqL K H a (ns.map V.int)) : S K H [] [([.ref a], [.sqi ns])] := by
  have at_a : onlyH H a a = H a := if_pos rfl
  refine ⟨⟨onlyH H a, fun b o e => ?_, fun _ z => (nomatch z), List.nodup_nil, fun r hr => ?_⟩⟩
  · by_cases c : b = a
    · rw [c] at e ⊢; rw [at_a] at e; exact e
    · have z : onlyH H a b = none := if_neg c
      rw [z] at e; cases e
  · obtain rfl := List.mem_singleton.mp hr
    refine .cons (.sqi _ ?_) .nil
    rcases h with (h | ⟨o, h⟩) | h
    · exact .inl (.inl (at_a.trans h))
    · exact .inl (.inr ⟨o, at_a.trans h⟩)
    · exact .inr h
theorem law_end {P : Program} {w : World} {K : PySem.W.Frag} {mg : Str → Option Value} {k : Nat} {fa : Addr} {x : Str} {st : Stmt} {sp : Sp} (raw : RawF K mg "law" st) (hfa : mg "law" = some (.ref fa))
    (bind : ∀ (kV doc pm : Value) (an : Option Addr) (cdv ct : Value) (us : List Value), us.length = ([x] : List Str).length → bindArgs (PySem.W.fnOf "law" "law" (defArgs st) (defBody st) (defScope st) .none kV doc pm an cdv ct) ⟨us, []⟩ = pure (([x] : List Str).zip us))
    (hb : ∀ (base : Heap), BaseM base → ∀ (f : Addr) (fd : FuncData), L2.Fun K "law" "law" st f fd → FnG P w K mg base k f fd [x] sp) :
    ∃ fd : FuncData, (∀ (s : Shared) (u : Value), BindsTo s fd ⟨[u], []⟩ [(x, u)]) ∧ ∀ base : Heap, K.In base → base.Ns mainGlobals mg → BaseM base → FnG P w K mg base k fa fd [x] sp := by
  obtain ⟨f, fd, F, hm⟩ := raw
  obtain rfl : fa = f := by rw [hfa] at hm; cases hm; rfl
  obtain ⟨oc, od, kV, dc, pm, an, cd, ct, osl, e0, lk, hc⟩ := id F.ex
  subst e0
  exact ⟨_, fun s u => .of_eq (bind kV dc pm an cd ct [u] rfl), fun base _ _ bm => hb base bm _ _ F⟩
theorem w_start {t : TS} {D : Ends} {N : List Str} {vs : List V} {σ0 : L2.St} {H : Hp} (e : start N vs = σ0) (q : t D σ0 H) : t D (start N vs) H := by
  rw [e]; exact q
theorem tkG {P : Program} {w : World} {K : PySem.W.Frag} {mg : Str → Option Value} {base : Heap} {N : List Str} {qual : Str} {scope : Scope} {f : Addr} {cd : Value} {A : Around} {out : List Env} {sh : Shared} {H : Hp} {E : XK} :
    Takes (cxG P w K mg base N qual scope f cd A out sh H E) (fun c d _ H => E c d H) := takes_of rfl rfl rfl rfl
theorem poG {P : Program} {w : World} {K : PySem.W.Frag} {mg : Str → Option Value} {base : Heap} {N : List Str} {qual : Str} {scope : Scope} {f : Addr} {cd : Value} {A : Around} {out : List Env} {sh : Shared} {H : Hp} {E : XK} :
    PassesOwn (model P w) (cxG P w K mg base N qual scope f cd A out sh H E).A (cxG P w K mg base N qual scope f cd A out sh H E).env (cxG P w K mg base N qual scope f cd A out sh H E).xe := passes_of rfl
theorem w_div {H : Hp} {Q : VK} {i j : Int} (h0 : 0 < j) (h1 : j < 2 ^ 200) (q : Q (.int (i / j)) H) : gDiv (.int i) (.int j) H Q := w_divI (wide_div (b := 200) h0 (by omega) (by decide) (by decide)) q
theorem atI_of {α : Type} {xs : List α} {k : Int} (h0 : 0 ≤ k) (h : k < xs.length) : ∃ c, atI xs k = some c ∧ xs[k.toNat]? = some c := by
  have hk : k.toNat < xs.length := by omega
  refine ⟨xs[k.toNat], ?_, List.getElem?_eq_getElem hk⟩
  have e : ((k.toNat : Nat) : Int) = k := by omega
  have z := atI_nat (List.getElem?_eq_getElem hk)
  rw [e] at z
  exact z
theorem atI_map {α : Type} {f : α → V} {xs : List α} {k : Int} (h0 : 0 ≤ k) (h : k < xs.length) : ∃ c, atI (xs.map f) k = some (f c) ∧ xs[k.toNat]? = some c := by
  obtain ⟨v, h1, h2⟩ := atI_of (xs := xs.map f) h0 (by simpa using h)
  rw [List.getElem?_map] at h2
  cases e : xs[k.toNat]? with
  | none => rw [e] at h2; cases h2
  | some c => rw [e] at h2; exact ⟨c, by rw [h1]; exact h2.symm, rfl⟩
/-! the law's own draws: a box of three numbers -/
structure Bx (o : HO) (m : Nat) : Prop where
  ex : ∃ x y z : Int, o = .lst [.int x, .int y, .int z] ∧ 0 ≤ x ∧ 0 ≤ y ∧ y < 2147483648 ∧ 0 ≤ z ∧ z ≤ m
theorem Bx.mono {o : HO} {m n : Nat} (b : Bx o m) (h : m ≤ n) : Bx o n := by
  obtain ⟨x, y, z, e, a, c, d, f, g⟩ := b
  exact ⟨x, y, z, e, a, c, d, f, by omega⟩
def cCell (K : PySem.W.Frag) : Sp := fun vs H Q _ => ∃ (a : Addr) (ns : List Int) (k : Int), vs = [.ref a, .int k] ∧ SqL K H a (ns.map V.int) ∧ 0 ≤ k ∧ ∀ c, Q (.int c) H
def cBox (K : PySem.W.Frag) : Sp := fun vs H Q _ => ∃ (c : Int) (L : List Cell) (R : List (List V × List T)), vs = [.int c] ∧ S K H L R ∧ ∀ p o H', Bx o 0 → S K H' ((p, o) :: L) R → Q (.ref p) H'
def cTake (K : PySem.W.Frag) : Sp := fun vs H Q _ => ∃ (b : Addr) (n : Int) (o : HO) (m : Nat) (L : List Cell) (R : List (List V × List T)), vs = [.ref b, .int n] ∧ S K H ((b, o) :: L) R ∧ Bx o m ∧ m < 1000000 ∧ 0 < n ∧ n < 2 ^ 200 ∧
  ∀ d o' H', 0 ≤ d → d < n → Bx o' (m + 1) → S K H' ((b, o') :: L) R → Q (.int d) H'
end Gk

set_option maxRecDepth 100000
set_option maxHeartbeats 1000000
/-! data with dicts; repr of it -/
namespace Gk
open PySem PySem.Spec PyProof.Rows L2
mutual
inductive Dd (K : PySem.W.Frag) (H : Hp) : V → PyData → Prop
  | non : Dd K H .non .none
  | bl (b : Bool) : Dd K H (.bl b) (.bool b)
  | int (i : Int) : Dd K H (.int i) (.int i)
  | str (x : Str) : Dd K H (.str x) (.str x)
  | lst {a : Addr} {xs : List V} {ds : List PyData} : SqL K H a xs → DdA K H xs ds → Dd K H (.ref a) (.list ds)
  | tup {a : Addr} {xs : List V} {ds : List PyData} : SqT K H a xs → DdA K H xs ds → Dd K H (.ref a) (.tuple ds)
  | dct {a : Addr} {kvs : List (Key × V)} {ks vs : List PyData} : H a = some (.dK kvs) → DdA K H (kvs.map fun p => kV p.1) ks → DdA K H (kvs.map (·.2)) vs → Dd K H (.ref a) (.dict (ks.zip vs))
inductive DdA (K : PySem.W.Frag) (H : Hp) : List V → List PyData → Prop
  | nil : DdA K H [] []
  | cons {v : V} {vs : List V} {d : PyData} {ds : List PyData} : Dd K H v d → DdA K H vs ds → DdA K H (v :: vs) (d :: ds)
end
theorem DdA.length {K : PySem.W.Frag} {H : Hp} : ∀ {vs : List V} {ds : List PyData}, DdA K H vs ds → vs.length = ds.length
  | _, _, .nil => rfl
  | _, _, .cons _ a => congrArg (· + 1) a.length
theorem keyV {P : Program} {w : World} {k : Key} {u : Value} (h : (mixKind P w).is k u = true) : RelV (kV k) u := by
  rcases keyIs_shape (show keyIs k u = true from h) with ⟨i, t, rfl, rfl⟩ | ⟨x, t, rfl, rfl⟩
  · exact ⟨t, rfl⟩
  · exact ⟨t, rfl⟩
theorem pairs_vals {P : Program} {w : World} : ∀ {es : List DictEntry} {kvs : List (Key × V)} {us : List (Key × Value)}, Pairs (mixKind P w) es us → KV kvs us →
    Vals (kvs.map fun p => kV p.1) (es.map (·.key)) ∧ Vals (kvs.map (·.2)) (es.map (·.val))
  | _, _, _, .nil, .nil => ⟨.nil, .nil⟩
  | _, _, _, .cons hk hv r, .cons q t => by
    obtain ⟨a, b⟩ := pairs_vals r t
    obtain ⟨q1, q2⟩ := q
    refine ⟨.cons ?_ a, .cons ?_ b⟩
    · show RelV (kV _) _; rw [q1]; exact keyV hk
    · have z := q2
      rw [← hv] at z
      exact z
section
variable {X : Cx} {pins : List (Addr × Obj)} {σ : L2.St} {H : Hp} {s : Shared}
theorem ne_sys (I : Inv X pins σ H s) (bm : BaseM X.base) {a : Addr} {xs : List V} (h : SqL X.K H a xs) : sysModules ≠ a := by
  rintro rfl
  obtain ⟨o, es, ep, z, d⟩ := bm
  rcases h with h | ⟨o', its, n, hk, _, _, hd, _⟩
  · have n0 := (I.bs _ _ z).2
    rcases h with h | ⟨_, h⟩ <;> (rw [n0] at h; cases h)
  · have z' := I.ok.mod.kin _ _ hk
    rw [z] at z'; cases z'; rw [d] at hd; cases hd
mutual
theorem Dd.reads (I : Inv X pins σ H s) (bm : BaseM X.base) : ∀ {v : V} {d : PyData}, Dd X.K H v d → ∀ (u : Value), RelV v u → ∃ as, Reads s.heap u d as ∧ sysModules ∉ as
  | _, _, .non, u, r => by obtain rfl : u = Value.none := r; exact ⟨_, .none, by simp⟩
  | _, _, .bl b, u, r => by obtain rfl : u = Value.bool b := r; exact ⟨_, .bool b, by simp⟩
  | _, _, .int i, _, ⟨t, e⟩ => by subst e; exact ⟨_, .int i t, by simp⟩
  | _, _, .str x, _, ⟨t, e⟩ => by subst e; exact ⟨_, .str x t, by simp⟩
  | _, _, .lst (a := a) h ha, u, r => by
    obtain rfl : u = Value.ref a := r
    obtain ⟨its, rv, ⟨o, n, e, c, _, d⟩, _⟩ := I.list h
    obtain ⟨as, q, nn⟩ := Dd.readsA I bm ha its rv
    exact ⟨_, .list e c d (by simpa using q), by rw [List.mem_cons]; exact fun z => z.elim (ne_sys I bm h) nn⟩
  | _, _, .tup (a := a) h ha, u, r => by
    obtain rfl : u = Value.ref a := r
    obtain ⟨its, rv, ⟨o, e, c, n, d⟩, _⟩ := I.tuple h
    obtain ⟨as, q, nn⟩ := Dd.readsA I bm ha its rv
    exact ⟨_, .tuple e c d (by simpa using q), nn⟩
  | _, _, .dct (a := a) (kvs := kvs) (ks := ks) (vs := vs) h hk hv, u, r => by
    obtain rfl : u = Value.ref a := r
    obtain ⟨_, ns, us, rel, o, es, ep, e, ex, d, _, pr, _⟩ := (show ObjOk X.prog X.w H s.heap a (.dK kvs) from I.hok a _ h)
    obtain ⟨r1, r2⟩ := pairs_vals pr rel
    have l1 := hk.length
    have l2 := hv.length
    rw [List.length_map] at l1 l2
    have e1 : (ks.zip vs).map (·.1) = ks := List.map_fst_zip (by omega)
    have e2 : (ks.zip vs).map (·.2) = vs := List.map_snd_zip (by omega)
    obtain ⟨as, q1, n1⟩ := Dd.readsA I bm hk _ r1
    obtain ⟨bs, q2, n2⟩ := Dd.readsA I bm hv _ r2
    refine ⟨_, .dict e ex.1 d (by rw [e1]; exact q1) (by rw [e2]; exact q2), ?_⟩
    have na : sysModules ≠ a := fun z => by rw [← z] at ns; simp at ns
    simp [na, n1, n2]
theorem Dd.readsA (I : Inv X pins σ H s) (bm : BaseM X.base) : ∀ {vs : List V} {ds : List PyData}, DdA X.K H vs ds → ∀ (us : List Value), Vals vs us → ∃ as, ReadsAll s.heap us ds as ∧ sysModules ∉ as
  | _, _, .nil, _, .nil => ⟨_, .nil, by simp⟩
  | _, _, .cons h1 h2, _, .cons r1 r2 => by
    obtain ⟨as, q1, n1⟩ := Dd.reads I bm h1 _ r1
    obtain ⟨bs, q2, n2⟩ := Dd.readsA I bm h2 _ r2
    exact ⟨_, .cons q1 q2, by simp [n1, n2]⟩
end
/-- repr of data -/
def gRepr (K : PySem.W.Frag) : List V → Hp → VK → Prop := fun xs H Q => ∃ x d, xs = [x] ∧ Dd K H x d ∧ d.showable = true ∧ d.depth ≤ 40 ∧ d.shown.length ≤ sizeLine ∧ Q (.str d.shown) H
theorem call_gRepr (bm : BaseM X.base) (hg : X.A.guards = some []) (hu : X.A.units + 64 < cLine) : CallR X (.builtin "repr") (gRepr X.K) := by
  rintro pins s σ H xs us Q I rv ⟨x, d, rfl, dp, sh, dep, sz, q⟩
  obtain ⟨u, rfl, ru⟩ := vals1 rv
  obtain ⟨as, rd, ns⟩ := dp.reads I bm u ru
  cases rd with
  | none => exact PySem.P.repr_of_none ⟨.str _, H, I.tok _, ⟨_, rfl⟩, q⟩
  | bool b => exact PySem.P.repr_of_bool ⟨.str _, H, I.tok _, ⟨s.toks, by simp only [PyData.shown]⟩, q⟩
  | int i t => exact PySem.P.repr_of_int (by simpa [PyData.showable] using sh) ⟨.str _, H, I.tok _, ⟨s.toks, by simp only [PyData.shown]⟩, q⟩
  | str y t => exact PySem.P.repr_of_str ⟨.str _, H, I.tok _, ⟨s.toks, by simp only [PyData.shown]⟩, q⟩ (by simpa only [PyData.shown] using sz)
  | list h1 h2 h3 h4 => exact repr_of_reads' (.list h1 h2 h3 h4) sh (fun _ => ns) hg (by omega) (fun _ _ z => z) (fun h' u' tk kp => ⟨.str _, H, I.kept (t' := tk) kp, ⟨_, rfl⟩, q⟩) sz
  | tuple h1 h2 h3 h4 => exact repr_of_reads' (.tuple h1 h2 h3 h4) sh (fun _ => ns) hg (by omega) (fun _ _ z => z) (fun h' u' tk kp => ⟨.str _, H, I.kept (t' := tk) kp, ⟨_, rfl⟩, q⟩) sz
  | dict h1 h2 h3 h4 h5 => exact repr_of_reads' (.dict h1 h2 h3 h4 h5) sh (fun _ => ns) hg (by omega) (fun _ _ z => z) (fun h' u' tk kp => ⟨.str _, H, I.kept (t' := tk) kp, ⟨_, rfl⟩, q⟩) sz
end
end Gk

set_option maxRecDepth 100000
set_option maxHeartbeats 1000000
/-! loops, comprehensions; more steps -/
namespace Gk
open PySem PySem.Spec PyProof.Rows L2
def gJoin (K : PySem.W.Frag) : V → List V → Hp → VK → Prop := fun x xs H Q => ∃ a p, ∃ ys : List Str, x = .str a ∧ xs = [.ref p] ∧ (SqL K H p (ys.map V.str) ∨ SqT K H p (ys.map V.str)) ∧ (ys.map (·.length)).sum + ys.length * a.length ≤ 16777216 ∧ Q (.str (Txt.join a ys)) H
theorem mt_gJoin {X : Cx} {K : PySem.W.Frag} (e : X.K = K) : MtR X "str.join" (gJoin K) := e ▸ mt_join
section
variable {K : PySem.W.Frag} {σ : L2.St} {H : Hp} {Q : VK} {D : Ends} {g : TG} {tb : TS} {wi : TI} {ta te tl : TE} {tA : TA} {tt : TT} {R : It → Hp → Prop} {L : List Cell} {Rr : List (List V × List T)}
/-- a loop over what J yields -/
def LoopOk (J : It) (g : TG) (tb : TS) (D : Ends) (σ : L2.St) (H1 : Hp) : Prop := ∃ W : Nat → Nat → L2.St → Hp → Prop, (∃ m, W 0 m σ H1) ∧ ∀ i m σ H, W i m σ H →
  (J.stop i H ∧ D.nx σ H) ∨ (J.go i H ∧ ∃ N : L2.St → Hp → Prop, (∀ σ' H', N σ' H' → ∃ m', m' < m ∧ W (i + 1) m' σ' H') ∧ ∀ x H', J.yld i H x H' → g x σ H' fun σ2 H2 => tb { D with nx := N, ct := N, bk := D.nx } σ2 H2)
theorem w_for (q : wi σ H fun J H1 => LoopOk J g tb D σ H1) : tFor wi g tb D σ H := q
def Rg1 (R : It → Hp → Prop) (vs : List V) (H1 : Hp) : Prop := ∃ j : Int, vs = [.int j] ∧ -(2 ^ 62) ≤ j ∧ j < 2 ^ 62 ∧ R (Itr 0 j.toNat) H1
def Rg2 (R : It → Hp → Prop) (vs : List V) (H1 : Hp) : Prop := ∃ i j : Int, vs = [.int i, .int j] ∧ (-(2 ^ 62) ≤ i ∧ i < 2 ^ 62 ∧ -(2 ^ 62) ≤ j ∧ j < 2 ^ 62) ∧ R (Itr i (j - i).toNat) H1
theorem w_rng1 (q : tA σ H fun vs H1 => Rg1 R vs H1) : iRng1 tA σ H R := q
theorem w_rng1x {n : Int} (h1 : -(2 ^ 62) ≤ n) (h2 : n < 2 ^ 62) (q : R (Itr 0 n.toNat) H) : Rg1 R [V.int n] H := ⟨n, rfl, h1, h2, q⟩
theorem w_rng2 (q : tA σ H fun vs H1 => Rg2 R vs H1) : iRng2 tA σ H R := q
theorem w_rng2x {n m : Int} (h : -(2 ^ 62) ≤ n ∧ n < 2 ^ 62 ∧ -(2 ^ 62) ≤ m ∧ m < 2 ^ 62) (q : R (Itr n (m - n).toNat) H) : Rg2 R [V.int n, V.int m] H := ⟨n, m, rfl, h, q⟩
/-- for over a range -/
theorem loop_rng {lo : Int} {n : Nat} (Pv : Nat → L2.St → Hp → Prop) (h0 : Pv 0 σ H)
    (hs : ∀ i σ H, i < n → Pv i σ H → g (.int (lo + i)) σ H fun σ2 H2 => tb { D with nx := Pv (i + 1), ct := Pv (i + 1), bk := D.nx } σ2 H2) (hd : ∀ σ H, Pv n σ H → D.nx σ H) : LoopOk (Itr lo n) g tb D σ H := for_range Pv h0 hs hd
theorem loop_list {a : Addr} {xs : List V} (Pv : Nat → L2.St → Hp → Prop) (h0 : Pv 0 σ H) (hl : ∀ i σ H, i ≤ xs.length → Pv i σ H → SqL K H a xs)
    (hs : ∀ i x σ H, xs[i]? = some x → Pv i σ H → g x σ H fun σ2 H2 => tb { D with nx := Pv (i + 1), ct := Pv (i + 1), bk := D.nx } σ2 H2) (hd : ∀ σ H, Pv xs.length σ H → D.nx σ H) : LoopOk (Itl K a) g tb D σ H := for_list Pv h0 hl hs hd
theorem loop_tup {a : Addr} {xs : List V} (Pv : Nat → L2.St → Hp → Prop) (h0 : Pv 0 σ H) (hl : ∀ i σ H, i ≤ xs.length → Pv i σ H → SqT K H a xs)
    (hs : ∀ i x σ H, xs[i]? = some x → Pv i σ H → g x σ H fun σ2 H2 => tb { D with nx := Pv (i + 1), ct := Pv (i + 1), bk := D.nx } σ2 H2) (hd : ∀ σ H, Pv xs.length σ H → D.nx σ H) : LoopOk (Itt K a) g tb D σ H := for_tup Pv h0 hl hs hd
theorem loop_str {z : Str} (Pv : Nat → L2.St → Hp → Prop) (h0 : Pv 0 σ H)
    (hs : ∀ i c σ H, z.cps.toList[i]? = some c → Pv i σ H → g (.str ⟨#[c]⟩) σ H fun σ2 H2 => tb { D with nx := Pv (i + 1), ct := Pv (i + 1), bk := D.nx } σ2 H2) (hd : ∀ σ H, Pv z.cps.toList.length σ H → D.nx σ H) : LoopOk (Its z) g tb D σ H := by
  have ln : z.cps.toList.length = z.cps.size := by simp
  refine ⟨fun i m σ H => m = z.cps.size - i ∧ i ≤ z.cps.size ∧ Pv i σ H, ⟨_, rfl, Nat.zero_le _, h0⟩, ?_⟩
  rintro i m σ H ⟨rfl, hi, p⟩
  by_cases h : i < z.cps.size
  · refine .inr ⟨h, Pv (i + 1), fun σ' H' p' => ⟨z.cps.size - (i + 1), by omega, rfl, h, p'⟩, ?_⟩
    rintro x H' ⟨rfl, c, hc, rfl⟩
    exact hs i c σ H' (by rw [Array.getElem?_toList]; exact hc) p
  · have e : i = z.cps.size := by omega
    refine .inl ⟨Nat.le_of_not_lt h, hd σ H ?_⟩
    rw [ln, ← e]; exact p
/-- for over a list, a tuple, a text (say which) -/
theorem w_forL (q : tl σ H fun x H1 => ∃ a, x = .ref a ∧ (∃ xs, SqL K H1 a xs) ∧ LoopOk (Itl K a) g tb D σ H1) : tFor (iG K tl) g tb D σ H := Or.inl q
theorem w_forT (q : tl σ H fun x H1 => ∃ a, x = .ref a ∧ (∃ xs, SqT K H1 a xs) ∧ LoopOk (Itt K a) g tb D σ H1) : tFor (iG K tl) g tb D σ H := Or.inr (Or.inl q)
theorem w_forS (q : tl σ H fun x H1 => ∃ z, x = .str z ∧ LoopOk (Its z) g tb D σ H1) : tFor (iG K tl) g tb D σ H := Or.inr (Or.inr q)
theorem w_itL {a : Addr} {xs : List V} {P : Addr → Prop} (h : SqL K H a xs) (q : P a) : ∃ b, V.ref a = .ref b ∧ (∃ xs, SqL K H b xs) ∧ P b := ⟨a, rfl, ⟨xs, h⟩, q⟩
theorem w_itT {a : Addr} {xs : List V} {P : Addr → Prop} (h : SqT K H a xs) (q : P a) : ∃ b, V.ref a = .ref b ∧ (∃ xs, SqT K H b xs) ∧ P b := ⟨a, rfl, ⟨xs, h⟩, q⟩
theorem w_itS {a : Str} {P : Str → Prop} (q : P a) : ∃ b, V.str a = .str b ∧ P b := ⟨a, rfl, q⟩
/-- a comprehension over what J yields -/
def LcPut (D : Addr) (Nx : Hp → Prop) (y : V) (H : Hp) : Prop := ∃ acc, H D = some (.lst acc) ∧ acc.length < sizeLine ∧ Nx (upd H D (.lst (acc ++ [y])))
def LcOk (J : It) (g : TG) (tt : TT) (te : TE) (vs : List Nat) (σ : L2.St) (H1 : Hp) (Q : VK) : Prop := ∀ D, H1 D = none → ∃ W : Nat → Nat → Hp → Prop, (∃ m, W 0 m (upd H1 D (.lst []))) ∧ ∀ i m H, W i m H →
  (J.stop i H ∧ Q (.ref D) H) ∨ (J.go i H ∧ ∃ Nx : Hp → Prop, (∀ H', Nx H' → ∃ m', m' < m ∧ W (i + 1) m' H') ∧ ∀ x H', J.yld i H x H' → g x (wipe σ vs) H' fun σ2 H2 => wipe σ2 vs = wipe σ vs ∧ tt σ2 H2 fun b H3 =>
    if b = true then te σ2 H3 fun y H4 => ∃ acc, H4 D = some (.lst acc) ∧ acc.length < sizeLine ∧ Nx (upd H4 D (.lst (acc ++ [y]))) else Nx H3)
variable {vs : List Nat}
theorem w_lc (q : wi σ H fun J H1 => LcOk J g tt te vs σ H1 Q) : tLc wi g tt te vs σ H Q := q
theorem w_lcL (q : tl σ H fun x H1 => ∃ a, x = .ref a ∧ (∃ xs, SqL K H1 a xs) ∧ LcOk (Itl K a) g tt te vs σ H1 Q) : tLc (iG K tl) g tt te vs σ H Q := Or.inl q
theorem w_lcT (q : tl σ H fun x H1 => ∃ a, x = .ref a ∧ (∃ xs, SqT K H1 a xs) ∧ LcOk (Itt K a) g tt te vs σ H1 Q) : tLc (iG K tl) g tt te vs σ H Q := Or.inr (Or.inl q)
theorem w_lcS (q : tl σ H fun x H1 => ∃ z, x = .str z ∧ LcOk (Its z) g tt te vs σ H1 Q) : tLc (iG K tl) g tt te vs σ H Q := Or.inr (Or.inr q)
theorem lcs_list {a : Addr} {xs : List V} {σw : L2.St} (s : S K H L Rr) (ew : wipe σ vs = σw) (Pv : Addr → Nat → Hp → Prop) (h0 : ∀ D H', S K H' ((D, .lst []) :: L) Rr → Pv D 0 H') (hl : ∀ D i H, i ≤ xs.length → Pv D i H → SqL K H a xs)
    (hs : ∀ D i x H, xs[i]? = some x → Pv D i H → g x σw H fun σ2 H2 => wipe σ2 vs = σw ∧ tt σ2 H2 fun b H3 => if b = true then te σ2 H3 fun y H4 => LcPut D (Pv D (i + 1)) y H4 else Pv D (i + 1) H3)
    (hd : ∀ D H, Pv D xs.length H → Q (.ref D) H) : LcOk (Itl K a) g tt te vs σ H Q := by subst ew; exact fun D hD => lc_list (Pv D) (h0 D _ (s.new hD _)) (hl D) (hs D) (hd D)
theorem lcs_tup {a : Addr} {xs : List V} {σw : L2.St} (s : S K H L Rr) (ew : wipe σ vs = σw) (Pv : Addr → Nat → Hp → Prop) (h0 : ∀ D H', S K H' ((D, .lst []) :: L) Rr → Pv D 0 H') (hl : ∀ D i H, i ≤ xs.length → Pv D i H → SqT K H a xs)
    (hs : ∀ D i x H, xs[i]? = some x → Pv D i H → g x σw H fun σ2 H2 => wipe σ2 vs = σw ∧ tt σ2 H2 fun b H3 => if b = true then te σ2 H3 fun y H4 => LcPut D (Pv D (i + 1)) y H4 else Pv D (i + 1) H3)
    (hd : ∀ D H, Pv D xs.length H → Q (.ref D) H) : LcOk (Itt K a) g tt te vs σ H Q := by subst ew; exact fun D hD => lc_tup (Pv D) (h0 D _ (s.new hD _)) (hl D) (hs D) (hd D)
theorem lcs_rng {lo : Int} {n : Nat} {σw : L2.St} (s : S K H L Rr) (ew : wipe σ vs = σw) (Pv : Addr → Nat → Hp → Prop) (h0 : ∀ D H', S K H' ((D, .lst []) :: L) Rr → Pv D 0 H')
    (hs : ∀ D i H, i < n → Pv D i H → g (.int (lo + i)) σw H fun σ2 H2 => wipe σ2 vs = σw ∧ tt σ2 H2 fun b H3 => if b = true then te σ2 H3 fun y H4 => LcPut D (Pv D (i + 1)) y H4 else Pv D (i + 1) H3)
    (hd : ∀ D H, Pv D n H → Q (.ref D) H) : LcOk (Itr lo n) g tt te vs σ H Q := by subst ew; exact fun D hD => lc_range (Pv D) (h0 D _ (s.new hD _)) (hs D) (hd D)
theorem lcs_str {z : Str} {σw : L2.St} (s : S K H L Rr) (ew : wipe σ vs = σw) (Pv : Addr → Nat → Hp → Prop) (h0 : ∀ D H', S K H' ((D, .lst []) :: L) Rr → Pv D 0 H')
    (hs : ∀ D i c H, z.cps.toList[i]? = some c → Pv D i H → g (.str ⟨#[c]⟩) σw H fun σ2 H2 => wipe σ2 vs = σw ∧ tt σ2 H2 fun b H3 => if b = true then te σ2 H3 fun y H4 => LcPut D (Pv D (i + 1)) y H4 else Pv D (i + 1) H3)
    (hd : ∀ D H, Pv D z.cps.toList.length H → Q (.ref D) H) : LcOk (Its z) g tt te vs σ H Q := by
  subst ew
  intro D hD
  have ln : z.cps.toList.length = z.cps.size := by simp
  refine ⟨fun i m H => m = z.cps.size - i ∧ i ≤ z.cps.size ∧ Pv D i H, ⟨_, rfl, Nat.zero_le _, h0 D _ (s.new hD _)⟩, ?_⟩
  rintro i m H ⟨rfl, hi, p⟩
  by_cases h : i < z.cps.size
  · refine .inr ⟨h, Pv D (i + 1), fun H' p' => ⟨z.cps.size - (i + 1), by omega, rfl, h, p'⟩, ?_⟩
    rintro x H' ⟨rfl, c, hc, rfl⟩
    exact hs D i c H' (by rw [Array.getElem?_toList]; exact hc) p
  · have e : i = z.cps.size := by omega
    refine .inl ⟨Nat.le_of_not_lt h, hd D H ?_⟩
    rw [ln, ← e]; exact p
/-- an item put into the comprehension's list -/
theorem w_wp {σ2 σw : L2.St} {A : Prop} (e : wipe σ2 vs = σw) (q : A) : wipe σ2 vs = σw ∧ A := ⟨e, q⟩
theorem w_lcput {D : Addr} {acc : List V} {y : V} {P : Hp → Prop} (s : S K H ((D, .lst acc) :: L) Rr) (sz : acc.length < sizeLine) (q : ∀ H', S K H' ((D, .lst (acc ++ [y])) :: L) Rr → P H') :
    LcPut D P y H := ⟨acc, s.cell, sz, q _ (s.put _)⟩
theorem w_yes {P : Bool → Hp → Prop} (q : P true H) : tYes σ H P := q
/-- texts' methods -/
theorem w_ex0 {a : Str} {C P : Str → Prop} (c : C a) (q : P a) : ∃ a', V.str a = .str a' ∧ ([] : List V) = [] ∧ C a' ∧ P a' := ⟨a, rfl, rfl, c, q⟩
theorem w_ex1 {a b : Str} {P : Str → Str → Prop} (q : P a b) : ∃ a' b', V.str a = .str a' ∧ [V.str b] = [.str b'] ∧ P a' b' := ⟨a, b, rfl, rfl, q⟩
theorem w_join {a : Str} {p : Addr} {ys : List Str} (h : SqL K H p (ys.map V.str) ∨ SqT K H p (ys.map V.str)) (sz : (ys.map (·.length)).sum + ys.length * a.length ≤ 16777216) (q : Q (.str (Txt.join a ys)) H) : gJoin K (.str a) [.ref p] H Q := ⟨a, p, ys, rfl, rfl, h, sz, q⟩
/-- isinstance -/
theorem w_isi {x : V} {T C : String} {b : Bool} (h : TyX K H x (.type T)) (e : kitB T C = some b) (q : Q (.bl b) H) : gIsi K [x, .ty C] H Q := .inl ⟨x, .ty C, .type T, .type C, b, rfl, .ty C, h, kit_ty e, q⟩
/-- raise -/
def RzQ (C : Addr) (W : WX) (σ : L2.St) (vs : List V) (H1 : Hp) : Prop := ∃ v, vs = [v] ∧ ∀ d, H1 d = none → W (.ref C) (some d) σ (upd H1 d (.xd [(("found" : Str), v)]))
theorem w_rzN {C : Addr} {W : WX} (q : tA σ H fun vs H1 => RzQ C W σ vs H1) : tRaiseN C W tA D σ H := q
theorem w_rz {C : Addr} {W : WX} {v : V} (s : S K H L Rr) (q : ∀ d H', S K H' ((d, .xd [(("found" : Str), v)]) :: L) Rr → W (.ref C) (some d) σ H') : RzQ C W σ [v] H := ⟨v, rfl, fun d hd => q d _ (s.new hd _)⟩
/-- a clause that takes the error, one that does not -/
theorem w_clT {Wo : WX} {c : Cl} {r : List Cl} {cls : Value} {d : Option Addr} (e : PySem.W.exmOne K cls c.1 = some true) (q : ∀ a, H a = none → clGo c a cls d D σ H) : wCl K Wo D (c :: r) cls d σ H := ⟨true, e, fun _ => q, fun z => (Bool.noConfusion z)⟩
theorem w_clF {Wo : WX} {c : Cl} {r : List Cl} {cls : Value} {d : Option Addr} (e : PySem.W.exmOne K cls c.1 = some false) (q : wCl K Wo D r cls d σ H) : wCl K Wo D (c :: r) cls d σ H := ⟨false, e, fun z => (Bool.noConfusion z), fun _ => q⟩
theorem w_clN {c : Value} {i : Nat} {ts : Addr → Value → Option Addr → TS} {a : Addr} {cls : Value} {d : Option Addr} {σ' : L2.St} (e : σ.set i (some (.ref a)) = σ') (q : ts a cls d (clD i D) σ' H) : clGo (c, some i, ts) a cls d D σ H := by
  subst e; exact q
theorem w_clP {c : Value} {ts : Addr → Value → Option Addr → TS} {a : Addr} {cls : Value} {d : Option Addr} (q : ts a cls d D σ H) : clGo (c, none, ts) a cls d D σ H := q
/-- e.found -/
def FndQ (C a : Addr) (cls : Value) (d : Option Addr) (Q : VK) (x : V) (H1 : Hp) : Prop := x = .ref a ∧ cls = .ref C ∧ ∃ (dd : Addr) (v : V), d = some dd ∧ H1 dd = some (.xd [(("found" : Str), v)]) ∧ Q v H1
theorem w_fnd {C a : Addr} {cls : Value} {d : Option Addr} (q : te σ H fun x H1 => FndQ C a cls d Q x H1) : tFound C a cls d te σ H Q := q
theorem w_fndx {C a dd : Addr} {v : V} (h : H dd = some (.xd [(("found" : Str), v)])) (q : Q v H) : FndQ C a (.ref C) (some dd) Q (.ref a) H := ⟨rfl, rfl, dd, v, rfl, h, q⟩
/-- a draw -/
theorem w_take {E : XK} {b : Addr} {n : Int} {o : HO} {m : Nat} (s : S K H ((b, o) :: L) Rr) (bx : Bx o m) (hm : m < 1000000) (h0 : 0 < n) (h1 : n < 2 ^ 200)
    (q : ∀ d o' H', 0 ≤ d → d < n → Bx o' (m + 1) → S K H' ((b, o') :: L) Rr → Q (.int d) H') : cTake K ([.ref b, .int n] ++ []) H Q E := ⟨b, n, o, m, L, Rr, rfl, s, bx, hm, h0, h1, q⟩
end
end Gk

set_option maxRecDepth 100000
set_option maxHeartbeats 1000000
/-! letters and words, as lists of code points -/
namespace Gk
open PySem PySem.Spec PyProof.Rows L2
abbrev tx (l : List Nat) : Str := ⟨l.toArray⟩
abbrev vt (l : List Nat) : V := .str (tx l)
theorem tx_len (l : List Nat) : (tx l).length = l.length := SX.S_len l
theorem tx_cat (a b : List Nat) : tx a ++ tx b = tx (a ++ b) := SX.S_cat a b
theorem tx_inj {a b : List Nat} (h : tx a = tx b) : a = b := SX.S_inj h
theorem tx_eq {a b : List Nat} : decide (tx a = tx b) = decide (a = b) := by
  by_cases h : a = b
  · subst h; simp
  · have h' : ¬ tx a = tx b := fun z => h (tx_inj z)
    rw [decide_eq_false h, decide_eq_false h']
theorem tx_cps (l : List Nat) : (tx l).cps.toList = l := rfl
def isSm (c : Nat) : Bool := decide (97 ≤ c ∧ c ≤ 122)
def isCp (c : Nat) : Bool := decide (65 ≤ c ∧ c ≤ 90)
def isAl (c : Nat) : Bool := isSm c || isCp c
def isMk (c : Nat) : Bool := c == 39 || c == 96 || c == 94 || c == 126 || c == 58
theorem mk_not_al {c : Nat} (h : isMk c = true) : isAl c = false := by
  simp only [isMk, Bool.or_eq_true, beq_iff_eq] at h
  rcases h with (((h | h) | h) | h) | h <;> subst h <;> decide
/-- a letter -/
def Let1 (l : List Nat) : Prop := ∃ c, isAl c = true ∧ (l = [c] ∨ ∃ m, isMk m = true ∧ l = [c, m])
theorem Let1.len {l : List Nat} (h : Let1 l) : 1 ≤ l.length ∧ l.length ≤ 2 := by
  obtain ⟨c, _, rfl | ⟨m, _, rfl⟩⟩ := h <;> simp
theorem al_lt {c : Nat} (h : isAl c = true) : c < 128 := by
  simp only [isAl, isSm, isCp, Bool.or_eq_true, decide_eq_true_eq] at h; omega
theorem mk_lt {c : Nat} (h : isMk c = true) : c < 128 := by
  simp only [isMk, Bool.or_eq_true, beq_iff_eq] at h; omega
theorem Let1.lt {l : List Nat} (h : Let1 l) : ∀ c ∈ l, c < 128 := by
  obtain ⟨c, h1, rfl | ⟨m, h2, rfl⟩⟩ := h <;> intro x hx <;> simp at hx
  · subst hx; exact al_lt h1
  · rcases hx with rfl | rfl
    · exact al_lt h1
    · exact mk_lt h2
/-- the letters of a text, put behind acc -/
def lin (acc : List (List Nat)) : List Nat → Option (List (List Nat))
  | [] => some acc
  | c :: r => if isAl c = true then lin (acc ++ [[c]]) r else if isMk c = true then (match acc.getLast? with
    | some [d] => lin (acc.dropLast ++ [[d, c]]) r
    | _ => none) else none
theorem lin_al {acc : List (List Nat)} {c : Nat} {r : List Nat} (h : isAl c = true) : lin acc (c :: r) = lin (acc ++ [[c]]) r := by rw [lin, if_pos h]
theorem lin_mk {acc : List (List Nat)} {c d : Nat} {r : List Nat} (h : isMk c = true) : lin (acc ++ [[d]]) (c :: r) = lin (acc ++ [[d, c]]) r := by
  rw [lin, if_neg (by rw [mk_not_al h]; decide), if_pos h]
  simp
theorem lin_flat : ∀ {ls : List (List Nat)} {acc : List (List Nat)} {r : List Nat}, (∀ l ∈ ls, Let1 l) → lin acc (ls.flatten ++ r) = lin (acc ++ ls) r
  | [], acc, r, _ => by simp
  | l :: ls, acc, r, h => by
    have ih := fun acc => lin_flat (acc := acc) (r := r) (fun x hx => h x (List.mem_cons_of_mem _ hx))
    obtain ⟨c, hc, rfl | ⟨m, hm, rfl⟩⟩ := h l List.mem_cons_self
    · rw [List.flatten_cons, List.append_assoc, List.singleton_append, lin_al hc, ih, List.append_assoc]; rfl
    · rw [List.flatten_cons, List.append_assoc, List.cons_append, List.cons_append, List.nil_append, lin_al hc, lin_mk hm, ih, List.append_assoc]; rfl
theorem lin_letters {ls : List (List Nat)} (h : ∀ l ∈ ls, Let1 l) : lin [] ls.flatten = some ls := by
  have := lin_flat (acc := []) (r := []) h
  rw [List.append_nil] at this
  rw [this]; rfl
/-- what comes of it is letters, and is the text -/
theorem lin_some : ∀ {t : List Nat} {acc ls : List (List Nat)}, (∀ l ∈ acc, Let1 l) → lin acc t = some ls → (∀ l ∈ ls, Let1 l) ∧ ls.flatten = acc.flatten ++ t
  | [], acc, ls, h, e => by rw [lin] at e; cases e; exact ⟨h, by simp⟩
  | c :: r, acc, ls, h, e => by
    rw [lin] at e
    by_cases h1 : isAl c = true
    · rw [if_pos h1] at e
      obtain ⟨a, b⟩ := lin_some (fun l hl => by
        rcases List.mem_append.mp hl with hl | hl
        · exact h l hl
        · rw [List.mem_singleton] at hl; subst hl; exact ⟨c, h1, .inl rfl⟩) e
      exact ⟨a, by rw [b]; simp⟩
    · rw [if_neg h1] at e
      by_cases h2 : isMk c = true
      · rw [if_pos h2] at e
        split at e
        · rename_i d hd
          obtain ⟨ys, rfl⟩ := List.getLast?_eq_some_iff.mp hd
          have e' : lin (ys ++ [[d, c]]) r = some ls := by simpa using e
          obtain ⟨a, b⟩ := lin_some (fun l hl => by
            rcases List.mem_append.mp hl with hl | hl
            · exact h l (List.mem_append_left _ hl)
            · rw [List.mem_singleton] at hl; subst hl
              obtain ⟨x, hx, q⟩ := h [d] (by simp)
              rcases q with q | ⟨m, _, q⟩
              · cases q; exact ⟨_, hx, .inr ⟨c, h2, rfl⟩⟩
              · cases q) e'
          exact ⟨a, by rw [b]; simp⟩
        · cases e
      · rw [if_neg h2] at e; cases e
/-- a sign that is none of a letter's spoils it -/
theorem lin_bad {c : Nat} (h1 : isAl c = false) (h2 : isMk c = false) : ∀ {t : List Nat} {acc : List (List Nat)}, c ∈ t → lin acc t = none
  | d :: r, acc, hm => by
    rw [lin]
    by_cases e : d = c
    · subst e; simp [h1, h2]
    · have hr : c ∈ r := by rcases List.mem_cons.mp hm with h | h; exact absurd h.symm e; exact h
      split
      · exact lin_bad h1 h2 hr
      · split
        · split
          · exact lin_bad h1 h2 hr
          · rfl
        · rfl
def isWord (t : List Nat) : Bool := decide (1 ≤ t.length ∧ t.length ≤ 16) && (match lin [] t with | some ls => decide (ls.length ≤ 8) | none => false)
theorem isWord_letters {ls : List (List Nat)} (h : ∀ l ∈ ls, Let1 l) (h1 : 1 ≤ ls.length) (h8 : ls.length ≤ 8) : isWord ls.flatten = true := by
  unfold isWord
  rw [lin_letters h]
  have : 1 ≤ ls.flatten.length ∧ ls.flatten.length ≤ 16 := by
    have key : ∀ ls : List (List Nat), (∀ l ∈ ls, Let1 l) → ls.length ≤ ls.flatten.length ∧ ls.flatten.length ≤ 2 * ls.length := by
      intro ls
      induction ls with
      | nil => intro _; simp
      | cons a r ih =>
        intro h
        have := (h a List.mem_cons_self).len
        have := ih fun x hx => h x (List.mem_cons_of_mem _ hx)
        simp only [List.flatten_cons, List.length_append, List.length_cons]; omega
    have := key ls h; omega
  rw [decide_eq_true this]; simp only [Bool.true_and, decide_eq_true_eq]; exact h8
theorem notWord_bad {c : Nat} {t : List Nat} (h1 : isAl c = false) (h2 : isMk c = false) (hc : c ∈ t) : isWord t = false := by
  unfold isWord; rw [lin_bad h1 h2 hc]; simp
theorem notWord_nil : isWord [] = false := by decide
theorem notWord_nine {ls : List (List Nat)} (h : ∀ l ∈ ls, Let1 l) (h9 : 8 < ls.length) : isWord ls.flatten = false := by
  unfold isWord; rw [lin_letters h]; simp; intro _ _; omega
theorem notWord_mark {c : Nat} {t : List Nat} (h : isMk c = true) : isWord (c :: t) = false := by
  unfold isWord
  have : lin [] (c :: t) = none := by rw [lin, if_neg (by rw [mk_not_al h]; decide), if_pos h]; rfl
  rw [this]; simp
theorem notWord_two {ls : List (List Nat)} {a b : Nat} (h : ∀ l ∈ ls, Let1 l) (ha : isMk a = true) (hb : isMk b = true) (hne : ls ≠ []) : isWord (ls.flatten ++ [a, b]) = false := by
  have : lin [] (ls.flatten ++ [a, b]) = none := by
    rw [lin_flat h, List.nil_append]
    obtain ⟨ys, y, rfl⟩ : ∃ ys y, ls = ys ++ [y] := ⟨ls.dropLast, ls.getLast hne, (List.dropLast_concat_getLast hne).symm⟩
    obtain ⟨c, hc, rfl | ⟨m, hm, rfl⟩⟩ := h y (by simp)
    · rw [lin_mk ha, lin, if_neg (by rw [mk_not_al hb]; decide), if_pos hb]; simp
    · rw [lin, if_neg (by rw [mk_not_al ha]; decide), if_pos ha]; simp
  unfold isWord; rw [this]; simp
/-! the texts of letters that the program holds -/
theorem mem_small {c : Nat} : decide (c ∈ (Str.ofString "abcdefghijklmnopqrstuvwxyz").cps.toList) = isSm c := by
  have : (Str.ofString "abcdefghijklmnopqrstuvwxyz").cps.toList = List.range' 97 26 := by decide +kernel
  rw [this]; unfold isSm
  by_cases h : 97 ≤ c ∧ c ≤ 122
  · rw [decide_eq_true h]; simp [List.mem_range']; exact ⟨c - 97, by omega, by omega⟩
  · rw [decide_eq_false h]; simp [List.mem_range']; intro x hx; omega
theorem mem_caps {c : Nat} : decide (c ∈ (Str.ofString "ABCDEFGHIJKLMNOPQRSTUVWXYZ").cps.toList) = isCp c := by
  have : (Str.ofString "ABCDEFGHIJKLMNOPQRSTUVWXYZ").cps.toList = List.range' 65 26 := by decide +kernel
  rw [this]; unfold isCp
  by_cases h : 65 ≤ c ∧ c ≤ 90
  · rw [decide_eq_true h]; simp [List.mem_range']; exact ⟨c - 65, by omega, by omega⟩
  · rw [decide_eq_false h]; simp [List.mem_range']; intro x hx; omega
theorem mem_marks {c : Nat} : decide (c ∈ (Str.ofString "'`^~:").cps.toList) = isMk c := by
  have : (Str.ofString "'`^~:").cps.toList = [39, 96, 94, 126, 58] := by decide +kernel
  rw [this]; unfold isMk
  simp only [List.mem_cons, List.not_mem_nil, or_false, Bool.decide_or, Bool.beq_eq_decide_eq]
  simp only [Bool.or_assoc]
end Gk

set_option maxRecDepth 100000
set_option maxHeartbeats 4000000
/-! isinstance of a held error that has fields -/
namespace Gk
open PySem PySem.Spec PySem.Calls PyProof.Rows PySem.W
section
variable {P : Program} {wd : World} {Ar : Around} {E : Value → Shared → Prop} {s : Shared} {K : Frag} {x D : Addr} {ox : Obj} {od : Option Obj}
theorem fo_data {C : Addr} {n : Str} {a g : Value} (h1 : (clsIn K C).isSome = true) (h2 : findIn K (.ref C) n = some (some a)) (h3 : specialIn K a "__get__" = some (some g)) (h4 : takesIn K a = some true) : findObj K C od n = some (.bind g a) := by
  obtain ⟨cd, e⟩ := Option.isSome_iff_exists.mp h1
  unfold findObj; rw [e, Option.bind_some, h2, Option.bind_some]; simp [h3, h4]
/-- what the class of a held error must say -/
structure ExF (K : Frag) (D : Addr) : Prop where
  ga : findIn K (.ref D) "__getattribute__" = some (some (.builtin "BaseException.__getattribute__"))
  gg : findIn K (.ref D) "__getattr__" = some none
  su : subIn K (.ref D) (.type "BaseException") = some true
  hd : hasDictIn K D = true
  cl : findIn K (.ref D) "__class__" = some (some (.builtin "object.__class__"))
  ge : specialIn K (.builtin "object.__class__") "__get__" = some (some (.builtin "getset_descriptor.__get__"))
  tk : takesIn K (.builtin "object.__class__") = some true
  mr : mroIn K D (.type "object") = some true
theorem ExF.isSome (e : ExF K D) : (clsIn K D).isSome = true := by
  obtain ⟨cd, h, _⟩ := any_some e.hd
  rw [h]; rfl
theorem kin_clsF {Q : Option Value → Shared → Prop} (e : ExF K D) (X : K.In s.heap) (I : InstAt s.heap x ox D od) (h : Q (some (.ref D)) { s with toks := s.toks + 1 }) : wpAny (model P wd) Ar (getAttr? (.ref x) "__class__") Q E s := by
  have hf : findObj K D od "__class__" = some (.bind (.builtin "getset_descriptor.__get__") (.builtin "object.__class__")) := fo_data e.isSome e.cl e.ge e.tk
  obtain ⟨hp, g, d, t, os⟩ := s
  have A0 := I.type (M := model P wd)
  have A1 := looks_findIn (M := model P wd) X e.ga
  have A2 := looks_findIn (M := model P wd) X e.gg
  have A3 := looks_find (M := model P wd) X I hf
  have up : Looks (model P wd) hp (isInstance (.ref x) (.type "BaseException")) true := A0.andThen (looks_subIn X e.su)
  have z2 : (Value.builtin "BaseException.__getattribute__" == Value.builtin "object.__getattribute__") = false := by decide +kernel
  have z1 : (onTheHeap (Value.ref D) && Value.builtin "BaseException.__getattribute__" == Value.builtin "object.__getattribute__") = false := by rw [z2]; rfl
  unfold getAttr? getAttrBy? getAttrBy
  refine wpAny_bind (wpAny_mkText (wpAny_bind (wpAny_attempt (wpAny_holding (wpAny_bind (A0.at (wpAny_bind (A1.at ?_))))))))
  show wpAny _ _ (if (onTheHeap (Value.ref D) && Value.builtin "BaseException.__getattribute__" == Value.builtin "object.__getattribute__") = true then _ else _) _ _ _
  rw [z1, if_neg Bool.false_ne_true]
  unfold getAttrByItsOwn hookBefore
  refine wpAny_bind ?_
  rw [if_pos (by rfl : onTheHeap (Value.ref D) = true)]
  refine A2.at ?_
  refine wpAny_bind (wpAny_attempt (wpAny_holding ?_))
  unfold callGetattribute
  rw [(by rfl : (false && onTheHeap (Value.builtin "BaseException.__getattribute__")) = false), if_neg Bool.false_ne_true]
  unfold boundAndCalled
  rw [PySem.F.excAttr_ValueError.ga.bind (.ref x)]
  refine wpAny_bind (wpAny_pure ?_)
  show wpAny _ _ (call (.builtin "BaseException.__getattribute__") [.ref x, .str "__class__" t]) _ _ _
  refine wpAny_call (codeAny_call_builtin PySem.F.excAttr_ValueError.ga.plain PySem.F.entry_bexc_ga ?_)
  refine @check_slot (model P wd) _ _ ⟨hp, g, d, t + 1, os⟩ "BaseException.__getattribute__" "BaseException" "__getattribute__" (.ref x) [.str "__class__" t] [] _ (by decide +kernel) (by decide +kernel) up (PySem.F.args_bexc_ga (.ref x) (.str "__class__" t)) ?_
  unfold Builtin.«object.__getattribute__»
  refine wpAny_bind (wpAny_of_eq (a := ((Value.ref x : Value), [Value.str "__class__" t])) (by first | rfl | (simp only [slotArgs]; rfl)) ?_)
  refine wpAny_bind (wpAny_pure (wpAny_bind (A0.at (wpAny_bind (A3.at ?_)))))
  show wpAny _ _ (holding [Value.builtin "object.__class__"] (call (.builtin "getset_descriptor.__get__") [.builtin "object.__class__", .ref x, .ref D]) >>= ret) _ _ _
  refine wpAny_bind (wpAny_holding (wpAny_call (class_get (s := ⟨hp, g, d, t + 1, os⟩) (ox := ox) (od := od) X I e.mr ?_)))
  refine wpAny_pure ?_
  show wpAny _ _ (handedOut (.ref D)) _ _ _
  rw [handedOut_of (v := .ref D) rfl]
  first
    | exact wpAny_pure (wpAny_pure h)
    | exact wpAny_pure h
    | exact wpAny_pure (wpAny_bind (wpAny_pure (wpAny_pure h)))
theorem kitx_F (e : ExF K D) : KitX K (.ref x) (.ref D) (fun h => InstAt h x ox D od) where
  ty := fun _ _ _ I => I.type
  it := fun _ _ X _ => by
    obtain ⟨c0, hc, _⟩ := any_some e.hd
    unfold clsIn at hc
    split at hc
    · rename_i c' d' cd' sl' ho
      intro A' Q' E' s' k q
      unfold isType loadHead
      exact wpAny_bind (wpAny_loadPart (k _ _ (X _ _ ho)) (wpAny_pure q))
    · cases hc
  ne := fun h tp dd its n sl X htp => by
    obtain ⟨c0, hc, _⟩ := any_some e.hd
    refine Bool.eq_false_iff.mpr fun q => ?_
    have e : D = tp := Value.ref.inj (beq_iff_eq.mp q)
    subst e
    unfold clsIn at hc
    split at hc
    · rename_i c' d' cd' sl' ho
      have z := (X _ _ ho).symm.trans htp
      cases z
    · cases hc
  ca := fun X I k => kin_clsF e X I k
end
end Gk
namespace Gk
open PySem PySem.Spec PyProof.Rows L2
theorem kit_exm {K : PySem.W.Frag} {C D : Addr} {b : Bool} (h : PySem.W.exmOne K (.ref C) (.ref D) = some b) (h0 : PySem.W.exmOne K (.ref C) (.ref C) = some true) : PySem.W.kitOne K (.ref C) (.ref D) = some b := by
  unfold PySem.W.kitOne
  by_cases e : C = D
  · subst e; rw [h0] at h; cases h; rw [if_pos (by simp)]
  · rw [if_neg (by simpa using e)]
    unfold PySem.W.exmOne at h
    split at h
    · exact h
    · cases h
/-- isinstance(e, c), e the error that the suite holds, or any other thing -/
def gIsE (K : PySem.W.Frag) (cls : Value) (d : Option Addr) (a : Addr) : List V → Hp → VK → Prop := fun xs H Q => gIsi K xs H Q ∨ ∃ (D dd : Addr) (c : V) (u : Value) (b : Bool) (fs : List (Str × V)), xs = [.ref a, c] ∧ cls = .ref D ∧ ExF K D ∧ d = some dd ∧ H dd = some (.xd fs) ∧ ClsV c u ∧ PySem.W.kitOne K (.ref D) u = some b ∧ Q (.bl b) H
theorem call_gIsE {X : Cx} {a : Addr} {cls : Value} {d : Option Addr} {oe : Obj} {pn : List (Addr × Obj)} (hz : Zc cls d oe) (hf : ∃ vs, oe.data = .fields vs) : CallR (X.suite a ((a, oe) :: pn)) (.builtin "isinstance") (gIsE X.K cls d a) := by
  intro pins s σ H xs us Q I r h
  rcases h with h | ⟨D, dd, c, u, b, fs, rfl, rfl, C, rfl, hd, hc, e, q⟩
  · exact call_gIsi pins s σ H xs us Q I r h
  obtain ⟨u1, u2, rfl, rx, rt⟩ := vals2 r
  obtain rfl : u1 = Value.ref a := rx
  obtain rfl : u2 = u := hc.eq rt
  obtain ⟨hget, _⟩ := I.pin (a, oe) (List.mem_append.mpr (.inl List.mem_cons_self))
  obtain ⟨vs, hv⟩ := hf
  obtain ⟨mA, hns, hr⟩ := (show ObjOk X.prog X.w H s.heap dd (.xd fs) from I.hok dd _ hd)
  obtain ⟨od, ho, hl⟩ := lookIn_ns hns
  have J : PySem.W.InstAt s.heap a oe D (some od) := ⟨hget, hz.1, by unfold PySem.W.notCls; rw [hv] <;> rfl, by rw [hz.2]; exact ho⟩
  exact PySem.W.kia_one (kitx_F C) I.kIn J e (fun z => nomatch z) fun tk => ⟨.bl b, H, I.kept (t' := tk) fun _ _ z => z, rfl, q⟩
theorem w_isE {K : PySem.W.Frag} {H : Hp} {Q : VK} {a C D dd : Addr} {b : Bool} {fs : List (Str × V)} (f : ExF K C) (h : H dd = some (.xd fs)) (e : PySem.W.exmOne K (.ref C) (.ref D) = some b) (e0 : PySem.W.exmOne K (.ref C) (.ref C) = some true) (q : Q (.bl b) H) :
    gIsE K (.ref C) (some dd) a [.ref a, .ref D] H Q := .inr ⟨C, dd, .ref D, .ref D, b, fs, rfl, rfl, f, rfl, h, .own D, kit_exm e e0, q⟩
theorem w_isEO {K : PySem.W.Frag} {H : Hp} {Q : VK} {a : Addr} {cls : Value} {d : Option Addr} {xs : List V} (q : gIsi K xs H Q) : gIsE K cls d a xs H Q := .inl q
end Gk

set_option maxRecDepth 100000
set_option maxHeartbeats 1000000
/-! texts as lists of code points; data that is shown -/
namespace Gk
open PySem PySem.Spec PyProof.Rows L2
theorem lit0 : Str.ofString "" = tx [] := by decide +kernel
theorem pe_sx {X : Cx} {z : Str} {l : List Nat} {k : Nat} {p : Pos} (e : z = tx l) : PE X (.Constant (.str z) k p) (tC (vt l)) := by
  subst e; exact pe_str
theorem cap_one {c : Nat} (h : c < 128) : Txt.upper (tx [c]) = tx [up1 c] := SX.upper_S (a := [c]) (by simp [h])
theorem up1_al {c : Nat} (h : isSm c = true) : isCp (up1 c) = true := by
  simp only [isSm, decide_eq_true_eq] at h
  have e : up1 c = c - 32 := if_pos h
  rw [e]; simp only [isCp, decide_eq_true_eq]; omega
theorem small_at {d : Int} (h0 : 0 ≤ d) (h : d < 26) : ∃ c, atI (Str.ofString "abcdefghijklmnopqrstuvwxyz").cps.toList d = some c ∧ isSm c = true := by
  have e : (Str.ofString "abcdefghijklmnopqrstuvwxyz").cps.toList = List.range' 97 26 := by decide +kernel
  rw [e]
  obtain ⟨c, h1, h2⟩ := atI_of (xs := List.range' 97 26) h0 (by simpa using h)
  refine ⟨c, h1, ?_⟩
  have := List.mem_of_getElem? h2
  simp [List.mem_range'] at this
  unfold isSm; rw [decide_eq_true_eq]; omega
theorem marks7 {d : Int} (h0 : 0 ≤ d) (h : d < 7) : ∃ mk, atI [vt [], vt [], vt [39], vt [96], vt [94], vt [126], vt [58]] d = some (vt mk) ∧ (mk = [] ∨ ∃ m, isMk m = true ∧ mk = [m]) := by
  have : d = 0 ∨ d = 1 ∨ d = 2 ∨ d = 3 ∨ d = 4 ∨ d = 5 ∨ d = 6 := by omega
  rcases this with rfl | rfl | rfl | rfl | rfl | rfl | rfl
  · exact ⟨[], rfl, .inl rfl⟩
  · exact ⟨[], rfl, .inl rfl⟩
  · exact ⟨[39], rfl, .inr ⟨_, by decide, rfl⟩⟩
  · exact ⟨[96], rfl, .inr ⟨_, by decide, rfl⟩⟩
  · exact ⟨[94], rfl, .inr ⟨_, by decide, rfl⟩⟩
  · exact ⟨[126], rfl, .inr ⟨_, by decide, rfl⟩⟩
  · exact ⟨[58], rfl, .inr ⟨_, by decide, rfl⟩⟩
theorem let1_mk {c : Nat} {mk : List Nat} (h : isAl c = true) (hm : mk = [] ∨ ∃ m, isMk m = true ∧ mk = [m]) : Let1 ([c] ++ mk) := by
  rcases hm with rfl | ⟨m, hm, rfl⟩
  · exact ⟨c, h, .inl rfl⟩
  · exact ⟨c, h, .inr ⟨m, hm, rfl⟩⟩
theorem sm_al {c : Nat} (h : isSm c = true) : isAl c = true := by unfold isAl; rw [h]; rfl
theorem cp_al {c : Nat} (h : isCp c = true) : isAl c = true := by unfold isAl; rw [h, Bool.or_true]
theorem vts (ls : List (List Nat)) : ls.map vt = (ls.map tx).map V.str := by rw [List.map_map]; rfl
theorem joinL_nil : ∀ ls : List (List Nat), TL.joinL [] ls = ls.flatten
  | [] => rfl
  | [a] => by simp [TL.joinL]
  | a :: b :: r => by
    have := joinL_nil (b :: r)
    rw [TL.joinL, this]; simp
    all_goals simp
theorem join_e (ls : List (List Nat)) : Txt.join (Str.ofString "") (ls.map tx) = tx ls.flatten := by
  rw [lit0]
  exact (SX.join_S [] ls).trans (congrArg tx (joinL_nil ls))
theorem sum_flat (ls : List (List Nat)) : ((ls.map tx).map (·.length)).sum = ls.flatten.length := by
  have := SX.lens ls
  rw [show (ls.map tx).map (·.length) = ls.map (·.length) from this, List.length_flatten]
section
variable {K : PySem.W.Frag} {H : Hp} {Q : VK} {L : List Cell} {R : List (List V × List T)} {P : Str → Addr → Prop}
/-- ''.join of texts in a list -/
theorem w_joinE {p : Addr} {ls : List (List Nat)} (h : SqL K H p (ls.map vt)) (sz : ls.flatten.length ≤ 1000000) (q : Q (vt ls.flatten) H) :
    gJoin K (vt []) [.ref p] H Q := by
  refine ⟨_, p, ls.map tx, rfl, rfl, .inl (by rw [← vts]; exact h), ?_, ?_⟩
  · rw [sum_flat]
    rw [tx_len, List.length_nil, Nat.mul_zero]; omega
  · rw [← lit0, join_e]; exact q
theorem w_addX {a b : List Nat} (sz : a.length + b.length ≤ 1000000) (q : Q (vt (a ++ b)) H) : gAdd K (vt a) (vt b) H Q := by
  refine w_addS (by rw [tx_len, tx_len, sizeLine_eq]; omega) ?_
  rw [tx_cat]; exact q
theorem w_lenX {a : List Nat} (sz : a.length ≤ 1000000) (q : Q (.int a.length) H) : gLen K [vt a] H Q := by
  refine w_lenS (by rw [tx_len, sizeLine_eq]; omega) ?_
  rw [tx_len]; exact q
theorem w_isiStr {t : Str} (q : Q (.bl true) H) : gIsi K [.str t, .ty "str"] H Q := w_isi (.base (.str t)) (by decide +kernel) q
theorem w_isiL {p : Addr} {xs : List V} (h : H p = some (.lst xs)) (q : Q (.bl true) H) : gIsi K [.ref p, .ty "list"] H Q := w_isi (.base (.lst h)) (by decide +kernel) q
end
theorem cutS_to {a : List Nat} {i : Int} (h : 0 ≤ i) : cutS (tx a) none (some i) = tx (a.take i.toNat) := by
  rw [C8.cutS_slice]; exact SX.slice_to h
theorem cutS_from {a : List Nat} {i : Int} (h : 0 ≤ i) : cutS (tx a) (some i) none = tx (a.drop i.toNat) := by
  rw [C8.cutS_slice]; exact SX.slice_from h
theorem w_slTo {K : PySem.W.Frag} {H : Hp} {Q : VK} {a : List Nat} {i : Int} (h : 0 ≤ i) (sz : a.length ≤ 1000000) (q : Q (vt (a.take i.toNat)) H) : gSl K (vt a) none (some i) H Q :=
  w_slS (by rw [tx_len, sizeLine_eq]; omega) (by rw [cutS_to h]; exact q)
theorem w_slFrom {K : PySem.W.Frag} {H : Hp} {Q : VK} {a : List Nat} {i : Int} (h : 0 ≤ i) (sz : a.length ≤ 1000000) (q : Q (vt (a.drop i.toNat)) H) : gSl K (vt a) (some i) none H Q :=
  w_slS (by rw [tx_len, sizeLine_eq]; omega) (by rw [cutS_from h]; exact q)
/-! equal lists of texts -/
def dts (ls : List (List Nat)) : List PyData := ls.map fun l => .str (tx l)
theorem dp_vts {K : PySem.W.Frag} {H : Hp} : ∀ ls : List (List Nat), DpAll K H (ls.map vt) (dts ls)
  | [] => .nil
  | l :: r => .cons (.str _) (dp_vts r)
theorem eqv_dts : ∀ ls ms : List (List Nat), PyData.eqvAll (dts ls) (dts ms) = decide (ls = ms)
  | [], [] => by decide
  | [], _ :: _ => by simp [dts, PyData.eqvAll]
  | _ :: _, [] => by simp [dts, PyData.eqvAll]
  | l :: ls, m :: ms => by
    show (PyData.eqv (.str (tx l)) (.str (tx m)) && PyData.eqvAll (dts ls) (dts ms)) = _
    rw [eqv_dts ls ms]
    show ((tx l == tx m) && _) = _
    rw [show (tx l == tx m) = decide (l = m) from SX.S_beq_eq]
    by_cases h1 : l = m <;> by_cases h2 : ls = ms <;> simp [h1, h2]
theorem strOk_tx {l : List Nat} (h : ∀ c ∈ l, c < 0x110000) : PyData.strOk (tx l) = true := by
  unfold PyData.strOk
  rw [← Array.all_toList]
  simp only [List.all_eq_true, decide_eq_true_eq]
  exact h
theorem lay_dts : ∀ {ls : List (List Nat)}, (∀ l ∈ ls, ∀ c ∈ l, c < 0x110000) → PyData.canLayAll0 (dts ls) = true
  | [], _ => rfl
  | l :: r, h => by
    show (PyData.strOk (tx l) && PyData.canLayAll0 (dts r)) = true
    rw [strOk_tx (h l List.mem_cons_self), lay_dts fun x hx => h x (List.mem_cons_of_mem _ hx)]; rfl
theorem dep_dts : ∀ (ls : List (List Nat)), PyData.depthAll (dts ls) = 0
  | [] => rfl
  | l :: r => by
    show max 0 (PyData.depthAll (dts r)) = 0
    rw [dep_dts r]; rfl
theorem shaped_dts {ls : List (List Nat)} (h : ∀ l ∈ ls, ∀ c ∈ l, c < 0x110000) : SeqAt.shaped (.list (dts ls)) = true := by
  show (PyData.canLayAll0 (dts ls) && decide (PyData.depthAll (dts ls) + 1 ≤ 64)) = true
  rw [lay_dts h, dep_dts]; rfl
theorem atI_last {ys : List V} {y : V} : atI (ys ++ [y]) (-1) = some y := by
  unfold atI
  have : ixN (ys ++ [y]).length (-1) = some ys.length := by
    unfold ixN; rw [List.length_append, List.length_singleton]
    simp
    omega
  rw [this]; simp
theorem ixN_last {n : Nat} : ixN (n + 1) (-1) = some n := by
  unfold ixN; simp; omega
section
variable {K : PySem.W.Frag} {H : Hp} {Q : VK}
theorem w_neLs {p q' : Addr} {ls ms : List (List Nat)} (h1 : SqL K H p (ls.map vt)) (h2 : SqL K H q' (ms.map vt)) (o1 : ∀ l ∈ ls, ∀ c ∈ l, c < 0x110000) (o2 : ∀ l ∈ ms, ∀ c ∈ l, c < 0x110000) (q : Q (.bl (!decide (ls = ms))) H) : gNe K (.ref p) (.ref q') H Q := by
  refine w_neDt (.lst h1 (dp_vts ls)) (.lst h2 (dp_vts ms)) (shaped_dts o1) (shaped_dts o2) ?_
  show Q (.bl (!PyData.eqvAll (dts ls) (dts ms))) H
  rw [eqv_dts]; exact q
theorem w_eqLs {p q' : Addr} {ls ms : List (List Nat)} (h1 : SqL K H p (ls.map vt)) (h2 : SqL K H q' (ms.map vt)) (o1 : ∀ l ∈ ls, ∀ c ∈ l, c < 0x110000) (o2 : ∀ l ∈ ms, ∀ c ∈ l, c < 0x110000) (q : Q (.bl (decide (ls = ms))) H) : gEq K (.ref p) (.ref q') H Q := by
  refine w_eqDt (.lst h1 (dp_vts ls)) (.lst h2 (dp_vts ms)) (shaped_dts o1) (shaped_dts o2) ?_
  show Q (.bl (PyData.eqvAll (dts ls) (dts ms))) H
  rw [eqv_dts]; exact q
end
/-! what may be shown -/
structure Nice (d : PyData) (n m : Nat) : Prop where
  sh : d.showable = true
  ls : PySem.PyData.leavesShort 13 d = true
  wt : PySem.PyData.weight d ≤ n
  dp : d.depth ≤ m
structure NiceA (ds : List PyData) (n m : Nat) : Prop where
  sh : PyData.showableAll ds = true
  ls : PySem.PyData.leavesShortAll 13 ds = true
  wt : PySem.PyData.weightAll ds ≤ n
  dp : PyData.depthAll ds ≤ m
theorem Nice.fits {d : PyData} {n m : Nat} (h : Nice d n m) (hn : n ≤ 2 ^ 20) : d.shown.length ≤ sizeLine := PySem.PyData.shown_fits (by decide) (by decide) h.ls (Nat.le_trans h.wt hn)
theorem Nice.none : Nice .none 0 0 := ⟨rfl, rfl, Nat.le_refl _, Nat.le_refl _⟩
theorem Nice.bool (b : Bool) : Nice (.bool b) 0 0 := ⟨rfl, rfl, Nat.le_refl _, Nat.le_refl _⟩
theorem Nice.int {i : Int} (h : i.natAbs < 10 ^ 12) : Nice (.int i) 41 0 := by
  have lg : i.natAbs.log2 < 40 := by
    by_cases z : i.natAbs = 0
    · rw [z]; decide
    · exact (Nat.log2_lt z).mpr (by omega)
  refine ⟨?_, ?_, ?_, Nat.le_refl _⟩
  · show decide _ = true; rw [decide_eq_true_eq]; omega
  · show decide _ = true; rw [decide_eq_true_eq]; exact PySem.PyData.shown_int_le h
  · show (if i == 0 then 0 else i.natAbs.log2 + 1) ≤ 41
    split <;> omega
theorem Nice.str {l : List Nat} (h : ∀ c ∈ l, c < 0x110000) : Nice (.str (tx l)) l.length 0 := by
  refine ⟨rfl, ?_, ?_, Nat.le_refl _⟩
  · show (List.all _ _) = true
    rw [List.all_eq_true]; intro c hc; rw [decide_eq_true_eq]
    have : (16 : Nat) ^ 8 = 4294967296 := by decide
    have := h c hc; omega
  · show (tx l).cps.size ≤ _
    exact Nat.le_of_eq (tx_len l)
theorem Nice.mono {d : PyData} {n m n' m' : Nat} (h : Nice d n m) (a : n ≤ n') (b : m ≤ m') : Nice d n' m' := ⟨h.sh, h.ls, Nat.le_trans h.wt a, Nat.le_trans h.dp b⟩
theorem NiceA.mono {d : List PyData} {n m n' m' : Nat} (h : NiceA d n m) (a : n ≤ n') (b : m ≤ m') : NiceA d n' m' := ⟨h.sh, h.ls, Nat.le_trans h.wt a, Nat.le_trans h.dp b⟩
theorem NiceA.nil : NiceA [] 0 0 := ⟨rfl, rfl, Nat.le_refl _, Nat.le_refl _⟩
theorem NiceA.cons {d : PyData} {ds : List PyData} {n m k j : Nat} (h : Nice d n m) (a : NiceA ds k j) : NiceA (d :: ds) (n + 1 + k) (max m j) := by
  refine ⟨?_, ?_, ?_, ?_⟩
  · show (d.showable && PyData.showableAll ds) = true; rw [h.sh, a.sh]; rfl
  · show (PySem.PyData.leavesShort 13 d && PySem.PyData.leavesShortAll 13 ds) = true; rw [h.ls, a.ls]; rfl
  · show PySem.PyData.weight d + 1 + PySem.PyData.weightAll ds ≤ _
    have := h.wt; have := a.wt; omega
  · show max d.depth (PyData.depthAll ds) ≤ _
    have := h.dp; have := a.dp; omega
theorem NiceA.list {ds : List PyData} {n m : Nat} (a : NiceA ds n m) : Nice (.list ds) n (m + 1) := ⟨a.sh, a.ls, a.wt, Nat.succ_le_succ a.dp⟩
theorem NiceA.tuple {ds : List PyData} {n m : Nat} (a : NiceA ds n m) : Nice (.tuple ds) n (m + 1) := ⟨a.sh, a.ls, a.wt, Nat.succ_le_succ a.dp⟩
theorem Nice.dict0 : Nice (.dict []) 0 1 := ⟨rfl, rfl, Nat.le_refl _, by decide⟩
theorem NiceA.strs : ∀ {ls : List (List Nat)} {k : Nat}, (∀ l ∈ ls, (∀ c ∈ l, c < 0x110000) ∧ l.length ≤ k) → NiceA (dts ls) ((k + 1) * ls.length) 0
  | [], _, _ => NiceA.nil
  | l :: r, k, h => by
    have h1 := h l List.mem_cons_self
    refine (NiceA.cons ((Nice.str h1.1).mono h1.2 (Nat.le_refl _)) (NiceA.strs fun x hx => h x (List.mem_cons_of_mem _ hx))).mono ?_ (Nat.le_refl _)
    rw [List.length_cons, Nat.mul_succ]; omega
section
variable {K : PySem.W.Frag} {H : Hp} {Q : VK}
theorem w_repr {x : V} {d : PyData} {n m : Nat} (h : Dd K H x d) (hn : Nice d n m) (n1 : n ≤ 2 ^ 20) (m1 : m ≤ 40) (q : Q (.str d.shown) H) : gRepr K [x] H Q := ⟨x, d, rfl, h, hn.sh, Nat.le_trans hn.dp m1, hn.fits n1, q⟩
end
theorem alpha_ascii : ∀ c, c < 128 → Txt.isalpha (tx [c]) = isAl c := by decide +kernel
/-- the state's cell among others -/
theorem S.strsAt {K : PySem.W.Frag} {H : Hp} {L : List Cell} {R : List (List V × List T)} {a : Addr} {ls : List (List Nat)} (s : S K H L R) (h : ([V.ref a], [T.lst ((ls.map tx).map .str)]) ∈ R) : H a = some (.lst (ls.map vt)) := by
  rw [vts]; exact s.strsOf h
theorem S.frzS {K : PySem.W.Frag} {H : Hp} {L : List Cell} {R : List (List V × List T)} {p : Addr} {ls : List (List Nat)} (s : S K H ((p, .lst (ls.map vt)) :: L) R) : S K H L (([V.ref p], [T.lst ((ls.map tx).map .str)]) :: R) := by
  rw [vts] at s
  exact ((s.add (vs := (ls.map tx).map .str) (ts := (ls.map tx).map .str) fun _ _ => .of_strs).frzL (ts := (ls.map tx).map .str) List.mem_cons_self).trs fun r hr => by
    rcases List.mem_cons.mp hr with rfl | hr
    · exact List.mem_cons_self
    · exact List.mem_cons_of_mem _ (List.mem_cons_of_mem _ hr)
theorem TrA.mem {K : PySem.W.Frag} {F : Hp} {v : V} : ∀ {vs : List V} {ts : List T}, TrA K F vs ts → v ∈ vs → ∃ t ∈ ts, Tr K F v t
  | _, _, .nil, h => nomatch h
  | _, _, .cons a r, h => by
    rcases List.mem_cons.mp h with rfl | h
    · exact ⟨_, List.mem_cons_self, a⟩
    · obtain ⟨t, h1, h2⟩ := TrA.mem r h
      exact ⟨t, List.mem_cons_of_mem _ h1, h2⟩
theorem S.val {K : PySem.W.Frag} {H : Hp} {L : List Cell} {R : List (List V × List T)} {vs : List V} {ts : List T} {v : V} (s : S K H L R) (h : (vs, ts) ∈ R) (hv : v ∈ vs) : ∃ t ∈ ts, S K H L (([v], [t]) :: R) := by
  obtain ⟨F, sm, ce, nd, tr⟩ := s
  obtain ⟨t, h1, h2⟩ := (tr _ h).mem hv
  refine ⟨t, h1, F, sm, ce, nd, fun r hr => ?_⟩
  rcases List.mem_cons.mp hr with rfl | hr
  · exact .cons h2 .nil
  · exact tr r hr
theorem S.isRef {K : PySem.W.Frag} {H : Hp} {L : List Cell} {R : List (List V × List T)} {ts : List T} {v : V} (s : S K H L R) (h : ([v], [T.lst ts]) ∈ R) : ∃ p, v = .ref p := by
  obtain ⟨F, sm, ce, nd, tr⟩ := s
  cases tr _ h with
  | cons q _ => cases q with
    | lst _ _ => exact ⟨_, rfl⟩
/-- one more value with its tree -/
theorem S.snoc {K : PySem.W.Frag} {H : Hp} {L : List Cell} {R : List (List V × List T)} {vs : List V} {ts : List T} {v : V} {t : T} (s : S K H L R) (h : (vs, ts) ∈ R) (hv : ([v], [t]) ∈ R) : S K H L ((vs ++ [v], ts ++ [t]) :: R) :=
  s.add fun _ q => (q _ h).app (q _ hv)
theorem mem_cutV {xs : List V} {lo hi : Option Int} {v : V} (h : v ∈ cutV xs lo hi) : v ∈ xs := List.mem_of_mem_drop (List.mem_of_mem_take h)
theorem S.under {K : PySem.W.Frag} {H : Hp} {X C L : List Cell} {R : List (List V × List T)} (s : S K H (X ++ (C ++ L)) R) : S K H (C ++ (X ++ L)) R := s.perm (by
  rw [← List.append_assoc, ← List.append_assoc]; exact List.Perm.append_right _ List.perm_append_comm)
/-- what a thing that is no word is -/
structure Sh (K : PySem.W.Frag) (C : List Cell) (v : V) (d : PyData) (Ty : String) : Prop where
  dd : ∀ {H L R}, S K H (C ++ L) R → Dd K H v d
  ty : ∀ {H L R}, S K H (C ++ L) R → TyX K H v (.type Ty)
  ni : Nice d 4000 3
theorem Sh.none {K : PySem.W.Frag} : Sh K [] .non .none "NoneType" := ⟨fun _ => .non, fun _ => .base .non, Nice.none.mono (by decide) (by decide)⟩
theorem Sh.int {K : PySem.W.Frag} {i : Int} (h : i.natAbs < 10 ^ 12) : Sh K [] (.int i) (.int i) "int" := ⟨fun _ => .int i, fun _ => .base (.int i), (Nice.int h).mono (by decide) (by decide)⟩
theorem Sh.bool {K : PySem.W.Frag} {i : Bool} : Sh K [] (.bl i) (.bool i) "bool" := ⟨fun _ => .bl i, fun _ => .base (.bl i), (Nice.bool i).mono (by decide) (by decide)⟩
theorem Sh.str {K : PySem.W.Frag} {t : List Nat} (h : ∀ c ∈ t, c < 0x110000) (l : t.length ≤ 1000) : Sh K [] (vt t) (.str (tx t)) "str" := ⟨fun _ => .str _, fun _ => .base (.str _), (Nice.str h).mono (by omega) (by decide)⟩
theorem Sh.tup {K : PySem.W.Frag} {p : Addr} {t : List Nat} (h : ∀ c ∈ t, c < 0x110000) (l : t.length ≤ 1000) : Sh K [(p, .tup [vt t])] (.ref p) (.tuple [.str (tx t)]) "tuple" :=
  ⟨fun s => .tup (.of s.cell) (.cons (.str _) .nil), fun s => .base (.tup s.cell), (NiceA.cons (Nice.str h) NiceA.nil).tuple.mono (by omega) (by decide)⟩
theorem Sh.lst {K : PySem.W.Frag} {p : Addr} {t : List Nat} (h : ∀ c ∈ t, c < 0x110000) (l : t.length ≤ 1000) : Sh K [(p, .lst [vt t])] (.ref p) (.list [.str (tx t)]) "list" :=
  ⟨fun s => .lst (.of s.cell) (.cons (.str _) .nil), fun s => .base (.lst s.cell), (NiceA.cons (Nice.str h) NiceA.nil).list.mono (by omega) (by decide)⟩
theorem Sh.dict {K : PySem.W.Frag} {p : Addr} : Sh K [(p, .dK [])] (.ref p) (.dict []) "dict" :=
  ⟨fun s => .dct s.cell .nil .nil, fun s => .base (.dK s.cell), Nice.dict0.mono (by decide) (by decide)⟩
end Gk
set_option maxHeartbeats 2000000
namespace Z
open PySem PySem.Spec PyProof.Rows L2 Gk
def topS (i : Nat) : Stmt := PySem.Challenge.pw_manycustoms_k02_letters_of_words.main.body.getD i (.Pass ⟨0, 0, 0, 0⟩)
structure Adr where
  (zz CustomsError NoWord NoWord_i NoText NoText_i : Addr)
structure Txt (K : PySem.W.Frag) (mg : Str → Option Value) (A : Adr) : Prop where
  r_letters_in : RawF K mg "letters_in" (topS 9)
  r_is_word : RawF K mg "is_word" (topS 10)
  r_letters_of : RawF K mg "letters_of" (topS 11)
  r_law_cell : RawF K mg "_law_cell" (topS 13)
  r_law_box : RawF K mg "_law_box" (topS 14)
  r_law_take : RawF K mg "_law_take" (topS 15)
  r_law_drawn : RawF K mg "_law_drawn" (topS 16)
  r_law_signs : RawF K mg "_law_signs" (topS 17)
  r_law_refused : RawF K mg "_law_refused" (topS 18)
  r_law_bad : RawF K mg "_law_bad" (topS 19)
  r_law : RawF K mg "law" (topS 20)
  c_SMALL : ∃ t, mg "SMALL" = some (.str "abcdefghijklmnopqrstuvwxyz" t)
  c_CAPITALS : ∃ t, mg "CAPITALS" = some (.str "ABCDEFGHIJKLMNOPQRSTUVWXYZ" t)
  c_MARKS : ∃ t, mg "MARKS" = some (.str "'`^~:" t)
  c_MOST_LETTERS : ∃ t, mg "MOST_LETTERS" = some (.int 8 t)
  b_isinstance : mg "isinstance" = none
  b_len : mg "len" = none
  b_list : mg "list" = none
  b_max : mg "max" = none
  b_min : mg "min" = none
  b_range : mg "range" = none
  b_repr : mg "repr" = none
  b_str : mg "str" = none
  g_CustomsError : mg "CustomsError" = some (.ref A.CustomsError)
  g_NoWord : mg "NoWord" = some (.ref A.NoWord)
  g_NoText : mg "NoText" = some (.ref A.NoText)
  x_NoWord : NoC K mg A.NoWord A.CustomsError A.NoWord_i "ValueError.__new__" "ValueError.__init__" "" "CustomsError" "NoWord.__init__" [.type "ValueError", .type "Exception", .type "BaseException", .type "object"]
  x_NoText : NoC K mg A.NoText A.CustomsError A.NoText_i "ValueError.__new__" "ValueError.__init__" "" "CustomsError" "NoText.__init__" [.type "ValueError", .type "Exception", .type "BaseException", .type "object"]
  f_NoWord : ExF K A.NoWord
  f_NoText : ExF K A.NoText
  e_NoWord_CustomsError : PySem.W.exmOne K (.ref A.NoWord) (.ref A.CustomsError) = some true
  e_NoWord_NoWord : PySem.W.exmOne K (.ref A.NoWord) (.ref A.NoWord) = some true
  e_NoWord_NoText : PySem.W.exmOne K (.ref A.NoWord) (.ref A.NoText) = some false
  e_NoText_CustomsError : PySem.W.exmOne K (.ref A.NoText) (.ref A.CustomsError) = some true
  e_NoText_NoWord : PySem.W.exmOne K (.ref A.NoText) (.ref A.NoWord) = some false
  e_NoText_NoText : PySem.W.exmOne K (.ref A.NoText) (.ref A.NoText) = some true
set_option hygiene false
local macro_rules | `(tactic| walk_at "sz") => `(tactic| first | (rw [sizeLine_eq]; exact Nat.le_of_ble_eq_true rfl) | (rw [sizeLine_eq]; omega) | (simp only [sizeLine_eq, List.length_append, List.length_cons, List.length_nil, List.length_map, List.length_take, List.length_drop, Str.length_append, List.length_reverse, List.length_replicate]; omega) | assumption)
local macro_rules | `(tactic| walk_at "mem") => `(tactic| first | assumption | exact List.mem_cons_self | exact List.mem_cons_of_mem _ List.mem_cons_self | exact List.mem_cons_of_mem _ (List.mem_cons_of_mem _ List.mem_cons_self) | exact List.mem_cons_of_mem _ (List.mem_cons_of_mem _ (List.mem_cons_of_mem _ List.mem_cons_self)) | exact List.mem_cons_of_mem _ (List.mem_cons_of_mem _ (List.mem_cons_of_mem _ (List.mem_cons_of_mem _ List.mem_cons_self))))
local macro_rules | `(tactic| walk_at "lk") => `(tactic| first | assumption | exact s.cell | exact s.f1.cell | exact s.f2.cell | exact s.f3.cell | exact s.f4.cell | exact s.strsOf (by walk_at "mem") | exact s.strsAt (by walk_at "mem"))
local macro_rules | `(tactic| walk_at "lkL") => `(tactic| first | assumption | exact .of s.cell | exact .of s.f1.cell | exact .of s.f2.cell | exact .of s.f3.cell | exact .of s.f4.cell | exact .of (s.strsOf (by walk_at "mem")) | exact .of (s.strsAt (by walk_at "mem")) | exact s.intsOf (by walk_at "mem"))
local macro_rules | `(tactic| walk_at "lkT") => `(tactic| first | assumption | exact .of s.cell | exact .of s.f1.cell | exact .of s.f2.cell | exact .of s.f3.cell | exact .of s.f4.cell | exact s.strsOfT (by walk_at "mem"))
local macro_rules | `(tactic| walk_at "s") => `(tactic| first | exact s | exact s.f1 | exact s.f2 | exact s.f3 | exact s.drop | exact s.f1.drop | exact s.f2.drop | exact s.f3.drop | exact s.f1.f2.drop | exact s.f2.f2.drop | exact s.f1.drop.f1 | exact s.f2.drop.f1 | exact s.f3.drop.f1 | exact s.drop.f1 | exact s.drop.drop | exact s.f1.f2.drop.drop | exact s.f2.f2.drop.drop | exact s.f3.f3.drop.drop)
local macro_rules | `(tactic| walk_at "wipe") => `(tactic| ((simp only [wipe, List.map_cons, List.map_nil, List.foldl_cons, List.foldl_nil, List.set_cons_zero, List.set_cons_succ]); exact rfl))
-- readings whose head says what to do
local macro_rules | `(tactic| walk_at "wa") => `(tactic| first
  | ((with_reducible apply w_var); exact rfl) | with_reducible refine w_c ?_ | with_reducible refine w_op ?_ | with_reducible refine w_cons ?_ | with_reducible refine w_nil ?_
  | with_reducible refine w_tTest ?_ | with_reducible refine w_exk ?_ | with_reducible refine w_tru ?_ | with_reducible refine w_truB ?_ | with_reducible refine w_and ?_ | with_reducible refine w_or ?_ | with_reducible refine w_not ?_
  | with_reducible refine w_seq ?_ | with_reducible refine w_ifS ?_ | with_reducible refine w_asg ?_ | ((with_reducible apply w_gn); (simp only [List.set_cons_zero, List.set_cons_succ]; exact rfl)) | with_reducible refine w_ret ?_ | with_reducible refine w_retN ?_ | with_reducible refine w_drop ?_ | with_reducible refine w_next ?_
  | with_reducible refine w_cb ?_ | with_reducible refine w_g ?_ | with_reducible refine w_bm ?_ | with_reducible refine w_bm0 ?_ | with_reducible refine w_m0 ?_ | with_reducible refine w_m1 ?_ | with_reducible refine w_isStr ?_ | with_reducible refine w_sl ?_
  | with_reducible refine w_andV ?_ | with_reducible refine w_orV ?_ | with_reducible refine w_notV ?_ | with_reducible refine w_exb ?_ | with_reducible refine w_ifE ?_ | with_reducible refine w_chain ?_ | with_reducible refine w_un ?_ | with_reducible refine w_sub ?_
  | with_reducible refine w_tLst ?_ | with_reducible refine w_tTup ?_ | with_reducible refine w_rzN ?_ | with_reducible refine w_fnd ?_ | ((with_reducible apply w_fndx); walk_at "lk") | ((with_reducible apply w_clN); (simp only [List.set_cons_zero, List.set_cons_succ]; exact rfl)) | with_reducible refine w_clP ?_ | with_reducible refine w_yes ?_ | ((with_reducible refine w_wp ?e ?_); (case e => exact rfl)) | with_reducible refine w_ex0 trivial ?_ | with_reducible refine w_nopart ?_ | with_reducible refine w_part ?_ | with_reducible refine w_partI ?_ | with_reducible refine w_ifnT ?_ | with_reducible refine w_ifnF ?_ | with_reducible refine w_ifT ?_ | with_reducible refine w_ifF ?_ | with_reducible refine w_brk ?_ | with_reducible refine w_cont ?_ | with_reducible refine w_for (w_rng1 ?_) | with_reducible refine w_for (w_rng2 ?_))
-- readings by the values
local macro_rules | `(tactic| walk_at "wb") => `(tactic| first
  | with_reducible refine w_addI ?_ | ((with_reducible refine w_addS ?sz ?_); (case sz => walk_at "sz")) | with_reducible refine w_minus ?_ | ((with_reducible refine w_mulI ?sz ?_); (case sz => first | exact .inl (by omega) | exact .inr (by omega)))
  | ((with_reducible refine w_div ?h0 ?h1 ?_); (case h0 => omega); (case h1 => omega)) | ((with_reducible refine w_modI ?sz ?_); (case sz => omega)) | with_reducible refine w_eqI ?_ | with_reducible refine w_eqS ?_ | with_reducible refine w_eqB ?_ | with_reducible refine w_neI ?_ | with_reducible refine w_neS ?_
  | with_reducible refine w_ltI ?_ | with_reducible refine w_leI ?_ | with_reducible refine w_gtI ?_ | with_reducible refine w_geI ?_ | with_reducible refine w_isR ?_ | with_reducible refine w_isnR ?_ | with_reducible refine w_isS ?_ | with_reducible refine w_isnS ?_ | with_reducible refine w_isI ?_ | with_reducible refine w_isnI ?_ | with_reducible refine w_isB ?_ | with_reducible refine w_isnB ?_ | with_reducible refine w_isO ?_ | with_reducible refine w_isnO ?_
  | with_reducible refine w_inS ?_ | with_reducible refine w_notInS ?_ | with_reducible refine w_max ?_ | with_reducible refine w_min ?_ | with_reducible refine w_gneg ?_
  | ((with_reducible refine w_lst s ?sz (fun p H s => ?_)); (case sz => walk_at "sz")) | ((with_reducible refine w_tup s ?sz (fun p H s => ?_)); (case sz => walk_at "sz")) | with_reducible refine w_dnew s (fun p H s => ?_)
  | ((with_reducible refine w_lcput s ?sz (fun H s => ?_)); (case sz => walk_at "sz")) | with_reducible refine w_isiStr ?_ | with_reducible refine w_rz s (fun d H s => ?_)
  | ((with_reducible refine w_addX ?sz ?_); (case sz => first | omega | (simp only [List.length_append, List.length_cons, List.length_nil, List.length_take, List.length_drop]; omega))) | ((with_reducible refine w_slTo ?h ?sz ?_); (case h => omega); (case sz => omega)) | ((with_reducible refine w_slFrom ?h ?sz ?_); (case h => omega); (case sz => omega)) | ((with_reducible refine w_lenX ?sz ?_); (case sz => first | omega | (simp only [List.length_append, List.length_cons, List.length_nil, List.length_take, List.length_drop]; omega)))
  | ((with_reducible refine w_lenS ?sz ?_); (case sz => walk_at "sz")) | ((with_reducible apply w_lenL); walk_at "lkL") | ((with_reducible apply w_lenT); walk_at "lkT")
  | ((with_reducible apply w_isLst); walk_at "lk")
  | ((with_reducible refine w_append s ?sz (fun H s => ?_)); (case sz => walk_at "sz")) | ((with_reducible refine w_append s.f1 ?sz (fun H s => ?_)); (case sz => walk_at "sz")) | ((with_reducible refine w_append s.f2 ?sz (fun H s => ?_)); (case sz => walk_at "sz")) | ((with_reducible refine w_append s.f3 ?sz (fun H s => ?_)); (case sz => walk_at "sz"))
  | with_reducible refine w_rng1x (by omega) (by omega) ?_ | with_reducible refine w_rng2x (by omega) ?_
  | with_reducible refine w_reverse s (fun H s => ?_) | with_reducible refine w_reverse s.f1 (fun H s => ?_) | with_reducible refine w_reverse s.f2 (fun H s => ?_)
  | ((with_reducible refine w_pow ?sz ?_); (case sz => exact ⟨by decide, by decide, by omega⟩))
  | ((with_reducible apply w_ixL); walk_at "lkL"; exact rfl)
  | ((with_reducible apply w_ixT); walk_at "lkT"; exact rfl)
  | ((with_reducible apply w_setL s); exact rfl; intro H s) | ((with_reducible apply w_setL s.f1); exact rfl; intro H s) | ((with_reducible apply w_setL s.f2); exact rfl; intro H s))
local macro_rules | `(tactic| walk_at "w") => `(tactic| ((try dsimp only [clD]); (repeat (first | walk_at "wa" | walk_at "wb"))))
set_option hygiene true

section
variable {P : Program} {w : World} {K : PySem.W.Frag} {mg : Str → Option Value} {base : Heap} {A0 : Adr}
abbrev st_law_cell : Stmt := topS 13
theorem sc_law_cell : FnScope ["_law_script", "_law_k"] ["_law_script", "_law_k"] (defScope st_law_cell) := ⟨rfl, rfl, rfl, by decide +kernel, rfl, by decide +kernel, by decide +kernel⟩
theorem ok_cell (T : Txt K mg A0) : Cal P w K mg base "_law_cell" 1 ["_law_script", "_law_k"] [] (cCell K) := by
  refine Cal.mk' T.r_law_cell sc_law_cell (fun vs H Q E h => ?_) (fun _ _ _ _ _ _ us hl => match us, hl with | [_, _], _ => rfl) (fun f cd A out sh H vs Q E hr h => ?_)
  · obtain ⟨a, ns, k, rfl, _⟩ := h; rfl
  · have hu64 := hr.r.units
    have hu1 := hu_of hr.r
    have hgd := hr.g
    obtain ⟨a, ns, k, rfl, hq, hk, q⟩ := h
    refine ⟨_, (pss_cons (ps_if (pt_cmpR (op_k gLt K rfl op_gLt) (pv 1) (pe_callB (cr_k gLen K rfl call_gLen) (by rfl) T.b_len (by decide +kernel) (pa_cons (pv 0) pa_nil)) (nomark _)) (pss_one (ps_ret (pe_ix (ix_k gIx K rfl (ix_g hu1)) (pv 0) (pv 1) (fun _ _ => rfl)))) pss_nil)
      (pss_one (ps_ret (pe_op (op_k gAdd K rfl op_gAdd) (pe_op (op_k gMul K rfl op_gMul) pe_int (pv 1)) pe_int)))), w_start (σ0 := [some _, some _]) rfl ?_⟩
    walk_at "w"
    refine w_iteD (fun hb => ?_) (fun hb => ?_)
    · obtain ⟨c, h1, h2⟩ := atI_map (f := V.int) (xs := ns) hk (by simpa using hb)
      walk_at "w"
      exact w_ixL hq h1 (q _)
    · walk_at "w"
      exact q _
abbrev st_law_box : Stmt := topS 14
theorem sc_law_box : FnScope ["_law_cell_here"] ["_law_cell_here"] (defScope st_law_box) := ⟨rfl, rfl, rfl, by decide +kernel, rfl, by decide +kernel, by decide +kernel⟩
theorem ok_box (T : Txt K mg A0) : Cal P w K mg base "_law_box" 1 ["_law_cell_here"] [] (cBox K) := by
  refine Cal.mk' T.r_law_box sc_law_box (fun vs H Q E h => ?_) (fun _ _ _ _ _ _ us hl => match us, hl with | [_], _ => rfl) (fun f cd A out sh H vs Q E hr h => ?_)
  · obtain ⟨c, L, R, rfl, _⟩ := h; rfl
  · have hu64 := hr.r.units
    have hu1 := hu_of hr.r
    have hgd := hr.g
    obtain ⟨c, L, R, rfl, s, q⟩ := h
    refine ⟨_, (pss_one (ps_ret (pe_lst (pa_cons (pe_callB (call_gMax rfl) (by rfl) T.b_max (by decide +kernel) (pa_cons pe_int (pa_cons (pe_op op_gMinus (pv 0) (pe_op op_gPow pe_int pe_int)) pa_nil))) (pa_cons (pe_op op_gMod (pv 0) pe_int) (pa_cons pe_int pa_nil)))))), w_start (σ0 := [some _]) rfl ?_⟩
    walk_at "w"
    refine q _ _ _ ⟨_, _, _, rfl, ?_, ?_, ?_, ?_, ?_⟩ s <;> omega
abbrev st_law_take : Stmt := topS 15
theorem sc_law_take : FnScope ["_law_box_here", "_law_many", "_law_number", "_law_digit"] ["_law_box_here", "_law_many"] (defScope st_law_take) := ⟨rfl, rfl, rfl, by decide +kernel, rfl, by decide +kernel, by decide +kernel⟩
theorem ok_take (T : Txt K mg A0) : Cal P w K mg base "_law_take" 1 ["_law_box_here", "_law_many"] [] (cTake K) := by
  refine Cal.mk' T.r_law_take sc_law_take (fun vs H Q E h => ?_) (fun _ _ _ _ _ _ us hl => match us, hl with | [_, _], _ => rfl) (fun f cd A out sh H vs Q E hr h => ?_)
  · obtain ⟨b, n, o, m, L, R, rfl, _⟩ := h; rfl
  · have hu64 := hr.r.units
    have hu1 := hu_of hr.r
    have hgd := hr.g
    obtain ⟨b, n, o, m, L, R, rfl, s, ⟨x, y, z, rfl, hx, hy, hy2, hz, hz2⟩, hm, hn, hn2, q⟩ := h
    refine ⟨_, (pss_cons (ps_if (pt_cmpR (op_k gGt K rfl op_gGt) (pe_ix (ix_k gIx K rfl (ix_g hu1)) (pv 0) pe_int (fun _ _ => rfl)) pe_int (nomark _)) (pss_cons (ps_set (i := 3) sc_law_take.nd rfl (by first | exact Or.inl rfl | exact Or.inr rfl) (pe_op op_gMod (pe_ix (ix_k gIx K rfl (ix_g hu1)) (pv 0) pe_int (fun _ _ => rfl)) (pv 1)))
      (pss_cons (ps_asg (pe_op op_gDiv (pe_ix (ix_k gIx K rfl (ix_g hu1)) (pv 0) pe_int (fun _ _ => rfl)) (pv 1)) (pg_sub (pv 0) pe_int (set_g hu1)))
      (pss_one (ps_ret (pv 3))))) pss_nil)
      (pss_cons (ps_asg (pe_op (op_k gAdd K rfl op_gAdd) (pe_ix (ix_k gIx K rfl (ix_g hu1)) (pv 0) pe_int (fun _ _ => rfl)) pe_int) (pg_sub (pv 0) pe_int (set_g hu1)))
      (pss_cons (ps_set (i := 2) sc_law_take.nd rfl (by first | exact Or.inl rfl | exact Or.inr rfl) (pe_op op_gMod (pe_op op_gPow (pe_op (op_k gAdd K rfl op_gAdd) (pe_op (op_k gAdd K rfl op_gAdd) (pe_ix (ix_k gIx K rfl (ix_g hu1)) (pv 0) pe_int (fun _ _ => rfl)) (pe_op (op_k gMul K rfl op_gMul) pe_int (pe_ix (ix_k gIx K rfl (ix_g hu1)) (pv 0) pe_int (fun _ _ => rfl)))) pe_int) pe_int) pe_int))
      (pss_cons (ps_set (i := 2) sc_law_take.nd rfl (by first | exact Or.inl rfl | exact Or.inr rfl) (pe_op op_gMod (pe_op op_gPow (pe_op (op_k gAdd K rfl op_gAdd) (pv 2) (pe_op (op_k gMul K rfl op_gMul) pe_int (pe_ix (ix_k gIx K rfl (ix_g hu1)) (pv 0) pe_int (fun _ _ => rfl)))) pe_int) pe_int))
      (pss_one (ps_ret (pe_op op_gMod (pe_op op_gDiv (pv 2) pe_int) (pv 1)))))))), w_start (σ0 := [some _, some _, none, none]) rfl ?_⟩
    walk_at "w"
    refine w_iteD (fun hb => ?_) (fun hb => ?_)
    · walk_at "w"
      exact q _ _ _ (Int.emod_nonneg _ (by omega)) (Int.emod_lt_of_pos _ hn) ⟨_, _, _, rfl, Int.ediv_nonneg hx (by omega), by omega, by omega, by omega, by omega⟩ s
    · walk_at "w"
      exact q _ _ _ (Int.emod_nonneg _ (by omega)) (Int.emod_lt_of_pos _ hn) ⟨_, _, _, rfl, by omega, by omega, by omega, by omega, by omega⟩ s
end

section
variable {P : Program} {w : World} {K : PySem.W.Frag} {mg : Str → Option Value} {base : Heap} {A0 : Adr}
def cDrawn (K : PySem.W.Frag) : Sp := fun vs H Q _ => ∃ (b : Addr) (n : Int) (o : HO) (m : Nat) (L : List Cell) (R : List (List V × List T)), vs = [.ref b, .int n] ∧ S K H ((b, o) :: L) R ∧ Bx o m ∧ m < 900000 ∧ 0 ≤ n ∧ n ≤ 40 ∧
  ∀ p o' (ls : List (List Nat)) H', (∀ l ∈ ls, Let1 l) → (ls.length : Int) = n → Bx o' (m + 3 * ls.length) → S K H' ((p, .lst (ls.map vt)) :: (b, o') :: L) R → Q (.ref p) H'
abbrev st_law_drawn : Stmt := topS 16
theorem sc_law_drawn : FnScope ["_law_box_here", "_law_many", "_law_small", "_law_found", "_law_k", "_law_way", "_law_sign", "_law_mark"] ["_law_box_here", "_law_many"] (defScope st_law_drawn) := ⟨rfl, rfl, rfl, by decide +kernel, rfl, by decide +kernel, by decide +kernel⟩
theorem ok_drawn (T : Txt K mg A0) (c_law_take : Cal P w K mg base "_law_take" 1 ["_law_box_here", "_law_many"] [] (cTake K)) : Cal P w K mg base "_law_drawn" 2 ["_law_box_here", "_law_many"] [] (cDrawn K) := by
  refine Cal.mk' T.r_law_drawn sc_law_drawn (fun vs H Q E h => ?_) (fun _ _ _ _ _ _ us hl => match us, hl with | [_, _], _ => rfl) (fun f cd A out sh H vs Q E hr h => ?_)
  · obtain ⟨b, n, o, m, L, R, rfl, _⟩ := h; rfl
  · have hu64 := hr.r.units
    have hu1 := hu_of hr.r
    have hgd := hr.g
    obtain ⟨b, n, o, m, L, R, rfl, s, bx, hm, hn, hn2, q⟩ := h
    refine ⟨_, (pss_cons (ps_set (i := 2) sc_law_drawn.nd rfl (by first | exact Or.inl rfl | exact Or.inr rfl) pe_str)
      (pss_cons (ps_set (i := 3) sc_law_drawn.nd rfl (by first | exact Or.inl rfl | exact Or.inr rfl) (pe_lst pa_nil))
      (pss_cons (ps_for poG rfl (pi_range1 rfl T.b_range (pa_cons (pv 1) pa_nil)) (pg_name (i := 4) sc_law_drawn.nd rfl (by first | exact Or.inl rfl | exact Or.inr rfl))
      (pss_cons (ps_set (i := 5) sc_law_drawn.nd rfl (by first | exact Or.inl rfl | exact Or.inr rfl) (pe_cal c_law_take (hr.mono (by decide)) tkG (pa_cons (pv 0) (pa_cons pe_int pa_nil))))
      (pss_cons (ps_set (i := 6) sc_law_drawn.nd rfl (by first | exact Or.inl rfl | exact Or.inr rfl) (pe_ix (ix_k gIx K rfl (ix_g hu1)) (pv 2) (pe_cal c_law_take (hr.mono (by decide)) tkG (pa_cons (pv 0) (pa_cons pe_int pa_nil))) (fun _ _ => rfl)))
      (pss_cons (ps_set (i := 7) sc_law_drawn.nd rfl (by first | exact Or.inl rfl | exact Or.inr rfl) (pe_ix (ix_k gIx K rfl (ix_g hu1)) (pe_lst (pa_cons (pe_sx (l := []) (by decide +kernel)) (pa_cons (pe_sx (l := []) (by decide +kernel)) (pa_cons (pe_sx (l := [39]) (by decide +kernel)) (pa_cons (pe_sx (l := [96]) (by decide +kernel)) (pa_cons (pe_sx (l := [94]) (by decide +kernel)) (pa_cons (pe_sx (l := [126]) (by decide +kernel)) (pa_cons (pe_sx (l := [58]) (by decide +kernel)) pa_nil)))))))) (pe_cal c_law_take (hr.mono (by decide)) tkG (pa_cons (pv 0) (pa_cons pe_int pa_nil))) (fun _ _ => rfl)))
      (pss_one (ps_expr (bm_k (K := K) rfl (pe_bm PySem.F.plainAttrs_list PySem.F.slot_list_append PySem.F.type_list_append mt_append (pv 3) (pa_cons (pe_op (op_k gAdd K rfl op_gAdd) (pe_ifExp (pt_cmpR (op_k gEq K rfl (op_gEq hu64)) (pv 5) pe_int (nomark _)) (pe_m0 PySem.F.slot_str_upper PySem.F.type_str_upper mt_upper (pv 6)) (pv 6)) (pv 7)) pa_nil)))))))))
      (pss_one (ps_ret (pv 3)))))), w_start (σ0 := [some _, some _, none, none, none, none, none, none]) rfl ?_⟩
    walk_at "w"
    refine loop_rng (fun i σ H => ∃ (x4 x5 x6 x7 : Option V) (o' : HO) (ls : List (List Nat)), σ = [some (.ref b), some (.int n), some (.str "abcdefghijklmnopqrstuvwxyz"), some (.ref p), x4, x5, x6, x7] ∧ S K H ((p, .lst (ls.map vt)) :: (b, o') :: L) R ∧ ls.length = i ∧ (∀ l ∈ ls, Let1 l) ∧ Bx o' (m + 3 * i)) ?_ ?_ ?_
    · exact ⟨_, _, _, _, _, [], rfl, s, rfl, (fun _ h => nomatch h), bx⟩
    · rintro i σ H hi ⟨x4, x5, x6, x7, o', ls, rfl, s, hl, hL, bx⟩
      have s := s.f1
      walk_at "w"
      refine w_take s bx (by omega) (by omega) (by omega) (fun d1 o1 H d10 d11 bx s => ?_)
      walk_at "w"
      refine w_take s bx (by omega) (by omega) (by omega) (fun d2 o2 H d20 d21 bx s => ?_)
      walk_at "w"
      obtain ⟨c, e1, hc⟩ := small_at d20 d21
      refine w_ixS (by decide +kernel) e1 ?_
      walk_at "w"
      refine w_take s.f1 bx (by omega) (by omega) (by omega) (fun d3 o3 H d30 d31 bx s => ?_)
      walk_at "w"
      obtain ⟨mk, e2, hmk⟩ := marks7 d30 d31
      refine w_ixL (.of s.f1.cell) e2 ?_
      walk_at "w"
      have l2 : mk.length ≤ 1 := by rcases hmk with rfl | ⟨m, _, rfl⟩ <;> simp
      have s := s.f1.drop
      refine w_iteD (fun hb => ?_) (fun hb => ?_)
      · walk_at "w"
        refine w_ex0 (by rw [tx_len]; simp) ?_
        rw [cap_one (al_lt (sm_al hc))]
        walk_at "w"
        exact ⟨_, _, _, _, _, ls ++ [[up1 c] ++ mk], rfl, by simpa using s, by simp [hl], fun l h => (List.mem_append.mp h).elim (hL l) (fun h => by rw [List.mem_singleton.mp h]; exact let1_mk (cp_al (up1_al hc)) hmk), bx.mono (by omega)⟩
      · walk_at "w"
        exact ⟨_, _, _, _, _, ls ++ [[c] ++ mk], rfl, by simpa using s, by simp [hl], fun l h => (List.mem_append.mp h).elim (hL l) (fun h => by rw [List.mem_singleton.mp h]; exact let1_mk (sm_al hc) hmk), bx.mono (by omega)⟩
    · rintro σ H ⟨x4, x5, x6, x7, o', ls, rfl, s, hl, hL, bx⟩
      walk_at "w"
      exact q _ _ ls _ hL (by omega) (by rw [hl]; exact bx) s
def cLettersIn (K : PySem.W.Frag) : Sp := fun vs H Q _ => ∃ (t : List Nat) (L : List Cell) (R : List (List V × List T)), vs = [vt t] ∧ S K H L R ∧ t.length ≤ 100000 ∧ (lin [] t = none → ∀ H', S K H' L R → Q .non H') ∧
  (∀ ls, lin [] t = some ls → ∀ p H', S K H' ((p, .lst (ls.map vt)) :: L) R → Q (.ref p) H')
abbrev st_letters_in : Stmt := topS 9
theorem sc_letters_in : FnScope ["text", "found", "sign"] ["text"] (defScope st_letters_in) := ⟨rfl, rfl, rfl, by decide +kernel, rfl, by decide +kernel, by decide +kernel⟩
theorem ok_letters_in (T : Txt K mg A0) : Cal P w K mg base "letters_in" 1 ["text"] [] (cLettersIn K) := by
  refine Cal.mk' T.r_letters_in sc_letters_in (fun vs H Q E h => ?_) (fun _ _ _ _ _ _ us hl => match us, hl with | [_], _ => rfl) (fun f cd A out sh H vs Q E hr h => ?_)
  · obtain ⟨t, L, R, rfl, _⟩ := h; rfl
  · have hu64 := hr.r.units
    have hu1 := hu_of hr.r
    have hgd := hr.g
    obtain ⟨t, L, R, rfl, s, sz, q0, q1⟩ := h
    refine ⟨_, (pss_cons (ps_set (i := 1) sc_letters_in.nd rfl (by first | exact Or.inl rfl | exact Or.inr rfl) (pe_lst pa_nil))
      (pss_cons (ps_for poG rfl (pi_k (K := K) rfl (pi_g (pv 0))) (pg_name (i := 2) sc_letters_in.nd rfl (by first | exact Or.inl rfl | exact Or.inr rfl))
      (pss_one (ps_if (PW.pt (pw_or (pt_cmpR (op_k gIn K rfl (op_gIn hu1)) (pv 2) (pe_gs T.c_SMALL) (by rfl)) (pw_or1 (pt_cmpR (op_k gIn K rfl (op_gIn hu1)) (pv 2) (pe_gs T.c_CAPITALS) (by rfl))))) (pss_one (ps_expr (bm_k (K := K) rfl (pe_bm PySem.F.plainAttrs_list PySem.F.slot_list_append PySem.F.type_list_append mt_append (pv 1) (pa_cons (pv 2) pa_nil))))) (pss_one (ps_if (PW.pt (pw_and (pt_cmpR (op_k gIn K rfl (op_gIn hu1)) (pv 2) (pe_gs T.c_MARKS) (by rfl)) (pw_and (pt_cmpR (op_k gNe K rfl (op_gNe hu64)) (pv 1) (pe_lst pa_nil) (nomark _)) (pw_and1 (pt_cmpR (op_k gEq K rfl (op_gEq hu64)) (pe_callB (cr_k gLen K rfl call_gLen) (by rfl) T.b_len (by decide +kernel) (pa_cons (pe_ix (ix_k gIx K rfl (ix_g hu1)) (pv 1) (pe_un un_gNeg pe_int) (fun _ _ => rfl)) pa_nil)) pe_int (nomark _)))))) (pss_one (ps_asg (pe_op (op_k gAdd K rfl op_gAdd) (pe_ix (ix_k gIx K rfl (ix_g hu1)) (pv 1) (pe_un un_gNeg pe_int) (fun _ _ => rfl)) (pv 2)) (pg_sub (pv 1) (pe_un un_gNeg pe_int) (set_g hu1)))) (pss_one (ps_ret pe_non)))))))
      (pss_one (ps_ret (pv 1))))), w_start (σ0 := [some _, none, none]) rfl ?_⟩
    walk_at "w"
    refine w_forS ?_
    walk_at "w"
    refine w_itS (loop_str (fun i σ H => ∃ (x2 : Option V) (acc : List (List Nat)), σ = [some (vt t), some (.ref p), x2] ∧ S K H ((p, .lst (acc.map vt)) :: L) R ∧ acc.length ≤ i ∧ lin [] t = lin acc (t.drop i) ∧ ∀ l ∈ acc, l.length ≤ 2 ∧ ∀ c ∈ l, c < 128) ?_ ?_ ?_)
    · exact ⟨_, [], rfl, s, Nat.le_refl _, rfl, fun _ h => nomatch h⟩
    · rintro i c σ H hc ⟨x2, acc, rfl, s, hl, hi, ha⟩
      have hlt : i < t.length := (List.getElem?_eq_some_iff.mp hc).1
      have hd : t.drop i = c :: t.drop (i + 1) := by
        rw [List.drop_eq_getElem_cons hlt]
        obtain ⟨_, e⟩ := List.getElem?_eq_some_iff.mp hc
        exact congrArg (· :: _) e
      rw [hd] at hi
      have alA : isAl c = true → lin [] t = lin (acc ++ [[c]]) (t.drop (i + 1)) := fun h => by rw [hi, lin_al h]
      have put : isAl c = true → ∀ H', S K H' ((p, .lst (acc.map vt ++ [vt [c]])) :: L) R → ∃ (x2 : Option V) (acc : List (List Nat)), [some (vt t), some (.ref p), some (vt [c])] = [some (vt t), some (.ref p), x2] ∧ S K H' ((p, .lst (acc.map vt)) :: L) R ∧ acc.length ≤ i + 1 ∧ lin [] t = lin acc (t.drop (i + 1)) ∧ ∀ l ∈ acc, l.length ≤ 2 ∧ ∀ c ∈ l, c < 128 := fun h H' s =>
        ⟨_, acc ++ [[c]], rfl, by simpa using s, by simp; exact hl, alA h, fun l hm => (List.mem_append.mp hm).elim (ha l) (fun z => by rw [List.mem_singleton.mp z]; exact ⟨by simp, fun d hd => by rw [List.mem_singleton.mp hd]; exact al_lt h⟩)⟩
      walk_at "w"
      rw [mem_small]
      refine w_ite (fun hb => ?_) (fun hb => ?_)
      · walk_at "w"
        exact put (sm_al hb) _ s
      · walk_at "w"
        rw [mem_caps]
        refine w_ite (fun hb2 => ?_) (fun hb2 => ?_)
        · walk_at "w"
          exact put (cp_al hb2) _ s
        · have na : isAl c = false := by unfold isAl; rw [hb, hb2]; rfl
          walk_at "w"
          rw [mem_marks]
          refine w_ite (fun hb3 => ?_) (fun hb3 => ?_)
          · walk_at "w"
            refine w_neLs (ms := []) (.of s.f1.cell) (.of s.cell) (fun l hm c hc => Nat.lt_trans ((ha l hm).2 c hc) (by decide)) (fun l hm => nomatch hm) ?_
            have s := s.drop
            walk_at "w"
            refine w_iteN (fun hb4 => ?_) (fun hb4 => ?_)
            · subst hb4
              walk_at "w"
              exact q0 (by rw [hi, lin, if_neg (by rw [na]; decide), if_pos hb3]; rfl) _ s.drop
            · obtain ⟨ys, y, rfl⟩ : ∃ ys y, acc = ys ++ [y] := ⟨acc.dropLast, acc.getLast hb4, (List.dropLast_concat_getLast hb4).symm⟩
              have e : atI ((ys ++ [y]).map vt) (-1) = some (vt y) := by rw [List.map_append]; exact atI_last
              have y2 := (ha y (by simp)).1
              walk_at "w"
              refine w_ixL (.of s.cell) e ?_
              walk_at "w"
              refine w_iteD (fun hb5 => ?_) (fun hb5 => ?_)
              · obtain ⟨d, rfl⟩ : ∃ d, y = [d] := List.length_eq_one_iff.mp (by omega)
                walk_at "w"
                refine w_ixL (.of s.cell) e ?_
                walk_at "w"
                refine w_setL s (j := ys.length) (by rw [List.length_map, List.length_append]; exact ixN_last) (fun H s => ?_)
                refine ⟨_, ys ++ [[d, c]], rfl, ?_, by simpa using Nat.le_succ_of_le hl, by rw [hi, lin_mk hb3], fun l hm => (List.mem_append.mp hm).elim (fun z => ha l (List.mem_append_left _ z)) (fun z => ?_)⟩
                · have e2 : ((ys ++ [[d]]).map vt).set ys.length (vt ([d] ++ [c])) = (ys ++ [[d, c]]).map vt := by simp
                  rw [← e2]; exact s
                · rw [List.mem_singleton.mp z]
                  exact ⟨Nat.le_refl _, fun x hx => by
                    rcases List.mem_cons.mp hx with rfl | hx
                    · exact (ha [x] (by simp)).2 x (by simp)
                    · rw [List.mem_singleton.mp hx]; exact mk_lt hb3⟩
              · walk_at "w"
                refine q0 ?_ _ s.drop
                rw [hi, lin, if_neg (by rw [na]; decide), if_pos hb3]
                have hy : y.length ≠ 1 := by omega
                simp
                split
                · rename_i d hd; simp at hd; subst hd; exact absurd rfl hy
                · rfl
          · walk_at "w"
            exact q0 (by rw [hi, lin, if_neg (by rw [na]; decide), if_neg (by rw [hb3]; decide)]) _ s.drop
    · rintro σ H ⟨x2, acc, rfl, s, hl, hi, ha⟩
      walk_at "w"
      refine q1 acc ?_ _ _ s
      rw [hi, tx_cps, List.drop_length]; rfl
def cIsWord (K : PySem.W.Frag) : Sp := fun vs H Q _ => ∃ (v : V) (L : List Cell) (R : List (List V × List T)), vs = [v] ∧ S K H L R ∧
  ((∃ t, v = vt t ∧ t.length ≤ 100000 ∧ ∀ H', S K H' L R → Q (.bl (isWord t)) H') ∨ ∃ T, TyX K H v (.type T) ∧ kitB T "str" = some false ∧ ∀ H', S K H' L R → Q (.bl false) H')
abbrev st_is_word : Stmt := topS 10
theorem sc_is_word : FnScope ["thing", "letters"] ["thing"] (defScope st_is_word) := ⟨rfl, rfl, rfl, by decide +kernel, rfl, by decide +kernel, by decide +kernel⟩
theorem ok_is_word (T : Txt K mg A0) (c_letters_in : Cal P w K mg base "letters_in" 1 ["text"] [] (cLettersIn K)) : Cal P w K mg base "is_word" 2 ["thing"] [] (cIsWord K) := by
  refine Cal.mk' T.r_is_word sc_is_word (fun vs H Q E h => ?_) (fun _ _ _ _ _ _ us hl => match us, hl with | [_], _ => rfl) (fun f cd A out sh H vs Q E hr h => ?_)
  · obtain ⟨t, L, R, rfl, _⟩ := h; rfl
  · have hu64 := hr.r.units
    have hu1 := hu_of hr.r
    have hgd := hr.g
    obtain ⟨v, L, R, rfl, s, ⟨t, rfl, sz, q⟩ | ⟨Ty, ty, kt, q⟩⟩ := h
    · refine ⟨_, (pss_cons (ps_if (PW.pt (pw_or (pt_not (pt_truk (K := K) rfl (pt_tru (pe_callB (cr_k gIsi K rfl call_gIsi) (by rfl) T.b_isinstance (by decide +kernel) (pa_cons (pv 0) (pa_cons (pe_ty (T := "str") T.b_str (by decide +kernel)) pa_nil)))))) (pw_or1 (pt_not (pt_chain (op_k gLe K rfl op_gLe) (op_k gLe K rfl op_gLe) pe_int (pe_callB (cr_k gLen K rfl call_gLen) (by rfl) T.b_len (by decide +kernel) (pa_cons (pv 0) pa_nil)) (pe_op (op_k gMul K rfl op_gMul) pe_int (pe_gi T.c_MOST_LETTERS))))))) (pss_one (ps_ret pe_bl)) pss_nil)
      (pss_cons (ps_set (i := 1) sc_is_word.nd rfl (by first | exact Or.inl rfl | exact Or.inr rfl) (pe_cal c_letters_in (hr.mono (by decide)) tkG (pa_cons (pv 0) pa_nil)))
      (pss_one (ps_ret (pe_and (pe_cmpR op_gIsNot (pv 1) pe_non (nomark _)) (pe_one (pe_cmpR (op_k gLe K rfl op_gLe) (pe_callB (cr_k gLen K rfl call_gLen) (by rfl) T.b_len (by decide +kernel) (pa_cons (pv 1) pa_nil)) (pe_gi T.c_MOST_LETTERS) (nomark _)))))))), w_start (σ0 := [some _, none]) rfl ?_⟩
      walk_at "w"
      refine w_iteD (fun hb => ?_) (fun hb => ?_)
      · walk_at "w"
        refine w_iteN (fun hb2 => ?_) (fun hb2 => ?_)
        · walk_at "w"
          refine ⟨t, L, R, rfl, s, sz, fun h H s => ?_, fun ls h p H s => ?_⟩
          · walk_at "w"
            have : isWord t = false := by unfold isWord; rw [h]; simp
            rw [← this]; exact q _ s
          · walk_at "w"
            have : isWord t = decide (((ls.map vt).length : Int) ≤ 8) := by
              unfold isWord; rw [h, decide_eq_true (show 1 ≤ t.length ∧ t.length ≤ 16 by omega)]
              simp; omega
            rw [← this]; exact q _ s.drop
        · walk_at "w"
          have : isWord t = false := by unfold isWord; rw [decide_eq_false (by omega)]; rfl
          rw [← this]; exact q _ s
      · walk_at "w"
        have : isWord t = false := by unfold isWord; rw [decide_eq_false (by omega)]; rfl
        rw [← this]; exact q _ s
    · refine ⟨_, (pss_cons (ps_if (PW.pt (pw_or (pt_not (pt_truk (K := K) rfl (pt_tru (pe_callB (cr_k gIsi K rfl call_gIsi) (by rfl) T.b_isinstance (by decide +kernel) (pa_cons (pv 0) (pa_cons (pe_ty (T := "str") T.b_str (by decide +kernel)) pa_nil)))))) (pw_or1 (pt_not (pt_chain (op_k gLe K rfl op_gLe) (op_k gLe K rfl op_gLe) pe_int (pe_callB (cr_k gLen K rfl call_gLen) (by rfl) T.b_len (by decide +kernel) (pa_cons (pv 0) pa_nil)) (pe_op (op_k gMul K rfl op_gMul) pe_int (pe_gi T.c_MOST_LETTERS))))))) (pss_one (ps_ret pe_bl)) pss_nil)
      (pss_cons (ps_set (i := 1) sc_is_word.nd rfl (by first | exact Or.inl rfl | exact Or.inr rfl) (pe_cal c_letters_in (hr.mono (by decide)) tkG (pa_cons (pv 0) pa_nil)))
      (pss_one (ps_ret (pe_and (pe_cmpR op_gIsNot (pv 1) pe_non (nomark _)) (pe_one (pe_cmpR (op_k gLe K rfl op_gLe) (pe_callB (cr_k gLen K rfl call_gLen) (by rfl) T.b_len (by decide +kernel) (pa_cons (pv 1) pa_nil)) (pe_gi T.c_MOST_LETTERS) (nomark _)))))))), w_start (σ0 := [some _, none]) rfl ?_⟩
      walk_at "w"
      refine w_isi ty kt ?_
      walk_at "w"
      exact q _ s
def cLettersOf (K : PySem.W.Frag) (A0 : Adr) : Sp := fun vs H Q E => ∃ (v : V) (L : List Cell) (R : List (List V × List T)), vs = [v] ∧ S K H L R ∧
  ((∃ t, v = vt t ∧ t.length ≤ 100000 ∧ (isWord t = true → ∀ ls, lin [] t = some ls → ∀ p H', S K H' ((p, .lst (ls.map vt)) :: L) R → Q (.ref p) H') ∧ (isWord t = false → ∀ d H', S K H' ((d, .xd [(("found" : Str), v)]) :: L) R → E (.ref A0.NoWord) (some d) H')) ∨
    ∃ T, TyX K H v (.type T) ∧ kitB T "str" = some false ∧ ∀ d H', S K H' ((d, .xd [(("found" : Str), v)]) :: L) R → E (.ref A0.NoWord) (some d) H')
abbrev st_letters_of : Stmt := topS 11
theorem sc_letters_of : FnScope ["word", "letters"] ["word"] (defScope st_letters_of) := ⟨rfl, rfl, rfl, by decide +kernel, rfl, by decide +kernel, by decide +kernel⟩
theorem ok_letters_of (T : Txt K mg A0) (c_letters_in : Cal P w K mg base "letters_in" 1 ["text"] [] (cLettersIn K)) (c_is_word : Cal P w K mg base "is_word" 2 ["thing"] [] (cIsWord K)) : Cal P w K mg base "letters_of" 5 ["word"] [] (cLettersOf K A0) := by
  refine Cal.mk' T.r_letters_of sc_letters_of (fun vs H Q E h => ?_) (fun _ _ _ _ _ _ us hl => match us, hl with | [_], _ => rfl) (fun f cd A out sh H vs Q E hr h => ?_)
  · obtain ⟨t, L, R, rfl, _⟩ := h; rfl
  · have hu64 := hr.r.units
    have hu1 := hu_of hr.r
    have hgd := hr.g
    obtain ⟨v, L, R, rfl, s, ⟨t, rfl, sz, q1, q2⟩ | ⟨Ty, ty, kt, q⟩⟩ := h
    · refine ⟨_, (pss_cons (ps_set (i := 1) sc_letters_of.nd rfl (by first | exact Or.inl rfl | exact Or.inr rfl) (pe_ifExp (pt_truk (K := K) rfl (pt_tru (pe_cal c_is_word (hr.mono (by decide)) tkG (pa_cons (pv 0) pa_nil)))) (pe_cal c_letters_in (hr.mono (by decide)) tkG (pa_cons (pv 0) pa_nil)) pe_non))
      (pss_cons (ps_if (pt_cmpR op_gIs (pv 1) pe_non (nomark _)) (pss_one (ps_raiseN rfl tkG tlVE T.x_NoWord T.g_NoWord (hr.mono (Nat.zero_le _)) (by decide +kernel) (by decide +kernel) (by decide +kernel) (pa_cons (pv 0) pa_nil))) pss_nil)
      (pss_one (ps_ret (pv 1))))), w_start (σ0 := [some _, none]) rfl ?_⟩
      walk_at "w"
      refine ⟨_, L, R, rfl, s, .inl ⟨t, rfl, sz, fun H s => ?_⟩⟩
      walk_at "w"
      refine w_ite (fun hb => ?_) (fun hb => ?_)
      · walk_at "w"
        refine ⟨t, L, R, rfl, s, sz, fun h H s => ?_, fun ls h p H s => ?_⟩
        · unfold isWord at hb; rw [h] at hb; simp at hb
        · walk_at "w"
          exact q1 hb _ h _ _ s
      · walk_at "w"
        exact q2 hb _ _ s
    · refine ⟨_, (pss_cons (ps_set (i := 1) sc_letters_of.nd rfl (by first | exact Or.inl rfl | exact Or.inr rfl) (pe_ifExp (pt_truk (K := K) rfl (pt_tru (pe_cal c_is_word (hr.mono (by decide)) tkG (pa_cons (pv 0) pa_nil)))) (pe_cal c_letters_in (hr.mono (by decide)) tkG (pa_cons (pv 0) pa_nil)) pe_non))
      (pss_cons (ps_if (pt_cmpR op_gIs (pv 1) pe_non (nomark _)) (pss_one (ps_raiseN rfl tkG tlVE T.x_NoWord T.g_NoWord (hr.mono (Nat.zero_le _)) (by decide +kernel) (by decide +kernel) (by decide +kernel) (pa_cons (pv 0) pa_nil))) pss_nil)
      (pss_one (ps_ret (pv 1))))), w_start (σ0 := [some _, none]) rfl ?_⟩
      walk_at "w"
      refine ⟨_, L, R, rfl, s, .inr ⟨Ty, ty, kt, fun H s => ?_⟩⟩
      walk_at "w"
      exact q _ _ s
end

section
variable {P : Program} {w : World} {K : PySem.W.Frag} {mg : Str → Option Value} {base : Heap} {A0 : Adr}
def sgA : Str := " !\"#$&'()*+,-./0123456789:;<=>?@ABCDEFGHIJKLMNOPQRSTUVWXYZ[\\]^_`"
def sgB : Str := "abcdefghijklmnopqrstuvwxyz{|}~\n"
def sgs : List Nat := (sgA ++ sgB).cps.toList
theorem sgs_eq : sgA ++ sgB = tx sgs := (SX.S_tl _).symm
theorem sgs_lt : ∀ c ∈ sgs, c < 128 := by decide +kernel
theorem sgs_len : sgs.length ≤ 200 := by decide +kernel
def okS (c : Nat) : Bool := !isAl c && !isMk c
theorem sgs_some : sgs.filter okS ≠ [] := by decide +kernel
def cSigns (K : PySem.W.Frag) : Sp := fun vs H Q _ => vs = [] ∧ Q (vt sgs) H
abbrev st_law_signs : Stmt := topS 17
theorem sc_law_signs : FnScope ["_law_some"] [] (defScope st_law_signs) := ⟨rfl, rfl, rfl, by decide +kernel, rfl, by decide +kernel, by decide +kernel⟩
theorem ok_signs (T : Txt K mg A0) : Cal P w K mg base "_law_signs" 1 [] [] (cSigns K) := by
  refine Cal.mk' T.r_law_signs sc_law_signs (fun vs H Q E h => ?_) (fun _ _ _ _ _ _ us hl => match us, hl with | [], _ => rfl) (fun f cd A out sh H vs Q E hr h => ?_)
  · obtain ⟨rfl, _⟩ := h; rfl
  · have hu64 := hr.r.units
    have hu1 := hu_of hr.r
    have hgd := hr.g
    obtain ⟨rfl, q⟩ := h
    refine ⟨_, (pss_cons (ps_set (i := 0) sc_law_signs.nd rfl (by first | exact Or.inl rfl | exact Or.inr rfl) pe_str)
      (pss_one (ps_ret (pe_op (op_k gAdd K rfl op_gAdd) (pv 0) pe_str)))), w_start (σ0 := [none]) rfl ?_⟩
    refine w_seq (w_asg (w_c ?_))
    refine w_gn rfl (w_next ?_)
    refine w_ret (w_op (w_var rfl (w_c ?_)))
    refine w_addS (by decide +kernel) ?_
    have e := sgs_eq
    unfold sgA sgB at e
    rw [e]
    exact q
def Wrong (K : PySem.W.Frag) (C : List Cell) (v : V) : Prop := (∃ d Ty, Sh K C v d Ty ∧ kitB Ty "list" = some false ∧ ((∃ t, v = vt t ∧ isWord t = false ∧ t.length ≤ 1000) ∨ kitB Ty "str" = some false)) ∨
  ∃ p t, v = .ref p ∧ C = [(p, .lst [vt t])] ∧ (∀ c ∈ t, c < 0x110000) ∧ t.length ≤ 1000
def cBad (K : PySem.W.Frag) : Sp := fun vs H Q _ => ∃ (b a : Addr) (ls : List (List Nat)) (o : HO) (m : Nat) (L : List Cell) (R : List (List V × List T)), vs = [.ref b, .ref a] ∧ S K H ((b, o) :: L) R ∧
  ([V.ref a], [T.lst ((ls.map tx).map .str)]) ∈ R ∧ (∀ l ∈ ls, Let1 l) ∧ 1 ≤ ls.length ∧ ls.length ≤ 8 ∧ Bx o m ∧ m < 800000 ∧
  ∀ C v o' H', Wrong K C v → Bx o' (m + 100) → S K H' (C ++ (b, o') :: L) R → Q v H'
theorem flat_len : ∀ {ls : List (List Nat)}, (∀ l ∈ ls, Let1 l) → ls.length ≤ ls.flatten.length ∧ ls.flatten.length ≤ 2 * ls.length
  | [], _ => by simp
  | a :: r, h => by
    have h1 := (h a List.mem_cons_self).len
    have h2 := flat_len fun x hx => h x (List.mem_cons_of_mem _ hx)
    simp only [List.flatten_cons, List.length_append, List.length_cons]; omega
theorem flat_lt {ls : List (List Nat)} (h : ∀ l ∈ ls, Let1 l) : ∀ c ∈ ls.flatten, c < 128 := fun c hc => by
  obtain ⟨l, h1, h2⟩ := List.mem_flatten.mp hc
  exact (h l h1).lt c h2
abbrev st_law_bad : Stmt := topS 19
theorem sc_law_bad : FnScope ["_law_box_here", "_law_letters", "_law_word", "_law_at", "_law_signs_here", "_law_sign", "_law_longer", "_law_some"] ["_law_box_here", "_law_letters"] (defScope st_law_bad) := ⟨rfl, rfl, rfl, by decide +kernel, rfl, by decide +kernel, by decide +kernel⟩
theorem ok_bad (T : Txt K mg A0) (c_law_take : Cal P w K mg base "_law_take" 1 ["_law_box_here", "_law_many"] [] (cTake K)) (c_law_signs : Cal P w K mg base "_law_signs" 1 [] [] (cSigns K))
    (c_law_drawn : Cal P w K mg base "_law_drawn" 2 ["_law_box_here", "_law_many"] [] (cDrawn K)) : Cal P w K mg base "_law_bad" 3 ["_law_box_here", "_law_letters"] [] (cBad K) := by
  refine Cal.mk' T.r_law_bad sc_law_bad (fun vs H Q E h => ?_) (fun _ _ _ _ _ _ us hl => match us, hl with | [_, _], _ => rfl) (fun f cd A out sh H vs Q E hr h => ?_)
  · obtain ⟨b, a, ls, o, m, L, R, rfl, _⟩ := h; rfl
  · have hu64 := hr.r.units
    have hu1 := hu_of hr.r
    have hgd := hr.g
    obtain ⟨b, a, ls, o, m, L, R, rfl, s, hm, hL, h1, h8, bx, hm2, q⟩ := h
    have fl := flat_len hL
    have ft := flat_lt hL
    refine ⟨_, (pss_cons (ps_set (i := 2) sc_law_bad.nd rfl (by first | exact Or.inl rfl | exact Or.inr rfl) (pe_m1 PySem.F.slot_str_join PySem.F.type_str_join (mt_gJoin (K := K) rfl) (pe_sx (l := []) (by decide +kernel)) (pv 1)))
      (pss_cons (ps_set (i := 3) sc_law_bad.nd rfl (by first | exact Or.inl rfl | exact Or.inr rfl) (pe_cal c_law_take (hr.mono (by decide)) tkG (pa_cons (pv 0) (pa_cons (pe_op (op_k gAdd K rfl op_gAdd) (pe_callB (cr_k gLen K rfl call_gLen) (by rfl) T.b_len (by decide +kernel) (pa_cons (pv 2) pa_nil)) pe_int) pa_nil))))
      (pss_cons (ps_setLc (i := 4) (own := [("_law_sign", 5)]) (g := (gName 5)) (by rfl) sc_law_bad.nd rfl rfl (sw_true rfl rfl rfl (by decide +kernel)) (pi_k (K := K) rfl (pi_g (pe_cal0 c_law_signs (hr.mono (by decide)) tkG))) (blkOk_by (own := [("_law_sign", 5)]) (by rfl)) (fun _ _ _ _ _ => (pg_name (i := 5) sc_law_bad.nd rfl (by first | exact Or.inl rfl | exact Or.inr rfl))) (fun _ _ _ _ _ => (pts_one (PW.pt (pw_and (pt_not (pt_truk (K := K) rfl (pt_tru (pe_m0 PySem.F.slot_str_isalpha PySem.F.type_str_isalpha mt_isalpha (pv 5))))) (pw_and1 (pt_cmpR (op_k gNotIn K rfl (op_gNotIn hu1)) (pv 5) pe_str (by rfl))))))) (fun _ _ _ _ _ => (pv 5)))
      (pss_cons (ps_set (i := 5) sc_law_bad.nd rfl (by first | exact Or.inl rfl | exact Or.inr rfl) (pe_ix (ix_k gIx K rfl (ix_g hu1)) (pv 4) (pe_cal c_law_take (hr.mono (by decide)) tkG (pa_cons (pv 0) (pa_cons (pe_callB (cr_k gLen K rfl call_gLen) (by rfl) T.b_len (by decide +kernel) (pa_cons (pv 4) pa_nil)) pa_nil))) (fun _ _ => rfl)))
      (pss_cons (ps_set (i := 6) sc_law_bad.nd rfl (by first | exact Or.inl rfl | exact Or.inr rfl) (pe_m1 PySem.F.slot_str_join PySem.F.type_str_join (mt_gJoin (K := K) rfl) (pe_sx (l := []) (by decide +kernel)) (pe_op (op_k gAdd K rfl op_gAdd) (pv 1) (pe_cal c_law_drawn (hr.mono (by decide)) tkG (pa_cons (pv 0) (pa_cons (pe_op op_gMinus pe_int (pe_callB (cr_k gLen K rfl call_gLen) (by rfl) T.b_len (by decide +kernel) (pa_cons (pv 1) pa_nil))) pa_nil))))))
      (pss_cons (ps_set (i := 7) sc_law_bad.nd rfl (by first | exact Or.inl rfl | exact Or.inr rfl) (pe_lst (pa_cons (pe_op (op_k gAdd K rfl op_gAdd) (pe_op (op_k gAdd K rfl op_gAdd) (pe_slice (sl_k gSl K rfl sl_g) (pv 2) po_none (po_some (pv 3))) (pv 5)) (pe_slice (sl_k gSl K rfl sl_g) (pv 2) (po_some (pv 3)) po_none)) (pa_cons (pv 6) (pa_cons (pe_sx (l := []) (by decide +kernel)) (pa_cons (pe_op (op_k gAdd K rfl op_gAdd) (pe_sx (l := [39]) (by decide +kernel)) (pv 2)) (pa_cons (pe_op (op_k gAdd K rfl op_gAdd) (pv 2) (pe_sx (l := [39, 96]) (by decide +kernel))) (pa_cons pe_non (pa_cons pe_int (pa_cons pe_bl (pa_cons (pe_lst (pa_cons (pv 2) pa_nil)) (pa_cons (pe_tup (pa_cons (pv 2) pa_nil)) (pa_cons pe_dnewK pa_nil)))))))))))))
      (pss_one (ps_ret (pe_ix (ix_k gIx K rfl (ix_g hu1)) (pv 7) (pe_cal c_law_take (hr.mono (by decide)) tkG (pa_cons (pv 0) (pa_cons pe_int pa_nil))) (fun _ _ => rfl)))))))))), w_start (σ0 := [some _, some _, none, none, none, none, none, none]) rfl ?_⟩
    walk_at "w"
    refine w_joinE (.of (s.strsAt hm)) (by omega) ?_
    walk_at "w"
    refine w_take s bx (by omega) (by omega) (by omega) (fun d1 o1 H d10 d11 bx s => ?_)
    walk_at "w"
    refine w_lcS ?_
    walk_at "w"
    refine ⟨rfl, ?_⟩
    refine w_itS (lcs_str s (by walk_at "wipe") (fun D i H => ∃ acc : List Nat, S K H ((D, .lst (acc.map fun c => vt [c])) :: (b, o1) :: L) R ∧ acc = (sgs.take i).filter okS) ?_ ?_ ?_)
    · exact fun D H s => ⟨[], s, rfl⟩
    · rintro D i c H hc ⟨acc, s, ha⟩
      have hc' : sgs[i]? = some c := hc
      have c128 := sgs_lt c (List.mem_of_getElem? hc')
      have al : acc.length ≤ 200 := by
        rw [ha]; exact Nat.le_trans (List.length_filter_le _ _) (Nat.le_trans (List.length_take_le _ _) (by have := (List.getElem?_eq_some_iff.mp hc').1; have := sgs_len; omega))
      have tk : (sgs.take (i + 1)).filter okS = acc ++ (if okS c = true then [c] else []) := by
        rw [List.take_succ, hc', List.filter_append, ha]; simp [List.filter_cons]
      walk_at "w"
      rw [alpha_ascii c c128]
      refine w_ite (fun hb => ?_) (fun hb => ?_)
      · walk_at "w"
        rw [mem_marks]
        refine w_ite (fun hb2 => ?_) (fun hb2 => ?_)
        · walk_at "w"
          refine ⟨acc ++ [c], by simpa using s, ?_⟩
          rw [tk, if_pos (by unfold okS; rw [hb, hb2]; rfl)]
        · exact ⟨acc, s, by rw [tk, if_neg (by unfold okS; rw [hb, hb2]; simp)]; simp⟩
      · walk_at "w"
        exact ⟨acc, s, by rw [tk, if_neg (by unfold okS; rw [hb]; simp)]; simp⟩
    rintro D H ⟨acc, s, ha⟩
    rw [tx_cps, List.take_length] at ha
    have an : acc ≠ [] := by rw [ha]; exact sgs_some
    have al : acc.length ≤ 200 := by rw [ha]; exact Nat.le_trans (List.length_filter_le _ _) sgs_len
    have a1 : 1 ≤ acc.length := List.length_pos_iff.mpr an
    have am : ∀ c ∈ acc, c < 128 ∧ isAl c = false ∧ isMk c = false := fun c hc => by
      rw [ha] at hc
      obtain ⟨h1, h2⟩ := List.mem_filter.mp hc
      unfold okS at h2
      exact ⟨sgs_lt c h1, by simpa using (Bool.and_eq_true_iff.mp h2).1, by simpa using (Bool.and_eq_true_iff.mp h2).2⟩
    walk_at "w"
    refine w_take s.f1 bx (by omega) (by simp; omega) (by simp; omega) (fun d2 o2 H d20 d21 bx s => ?_)
    obtain ⟨c, e1, hc⟩ := atI_map (f := fun c => vt [c]) (xs := acc) d20 (by simpa using d21)
    obtain ⟨c128, cA, cM⟩ := am c (List.mem_of_getElem? hc)
    walk_at "w"
    refine w_ixL (.of s.f1.cell) e1 ?_
    have s := s.f1.drop
    walk_at "w"
    have hls : ((List.map V.str (List.map tx ls)).length : Int) = ls.length := by simp
    refine ⟨b, _, o2, m + 2, L, R, rfl, s, bx.mono (by omega), by omega, by simp; omega, by simp; omega, fun p o3 ms H hM hl bx s => ?_⟩
    have ml := flat_len hM
    have mt := flat_lt hM
    walk_at "w"
    refine w_addL s (s.strsAt hm) s.cell (by rw [sizeLine_eq]; simp at hl ⊢; omega) (fun r H s => ?_)
    rw [← List.map_append] at s
    have tot : (ls ++ ms).flatten.length = ls.flatten.length + ms.flatten.length := by simp
    simp at hl
    walk_at "w"
    refine w_joinE (.of s.cell) (by omega) ?_
    have s := s.drop.drop
    walk_at "w"
    refine w_take s.f4 bx (by omega) (by omega) (by omega) (fun d4 o4 H d40 d41 bx s => ?_)
    have lt : ∀ (l : List Nat), (∀ c ∈ l, c < 128) → ∀ c ∈ l, c < 0x110000 := fun l h c hc => Nat.lt_trans (h c hc) (by decide)
    have mix : ∀ x ∈ ls.flatten.take d1.toNat ++ [c] ++ ls.flatten.drop d1.toNat, x < 128 := fun x hx => by
      rcases List.mem_append.mp hx with hx | hx
      · rcases List.mem_append.mp hx with hx | hx
        · exact ft x (List.mem_of_mem_take hx)
        · rw [List.mem_singleton.mp hx]; exact c128
      · exact ft x (List.mem_of_mem_drop hx)
    have str : ∀ (t : List Nat), isWord t = false → (∀ c ∈ t, c < 128) → t.length ≤ 1000 → Wrong K [] (vt t) := fun t h1 h2 h3 => .inl ⟨_, _, Sh.str (lt t h2) h3, by decide +kernel, .inl ⟨t, rfl, h1, h3⟩⟩
    have : d4 = 0 ∨ d4 = 1 ∨ d4 = 2 ∨ d4 = 3 ∨ d4 = 4 ∨ d4 = 5 ∨ d4 = 6 ∨ d4 = 7 ∨ d4 = 8 ∨ d4 = 9 ∨ d4 = 10 := by omega
    have bx := bx.mono (n := m + 100) (by omega)
    have wl : ls.flatten.length ≤ 16 := by omega
    have s1 : S K H (([] : List Cell) ++ (b, o4) :: L) R := s.f1.drop.f1.drop.f1.drop.f1.drop
    have l39 : ∀ c ∈ [39] ++ ls.flatten, c < 128 := fun c hc => (List.mem_append.mp hc).elim (fun h => by rw [List.mem_singleton.mp h]; decide) (ft c)
    have l396 : ∀ c ∈ ls.flatten ++ [39, 96], c < 128 := fun c hc => (List.mem_append.mp hc).elim (ft c) (fun h => by simp at h; omega)
    have fms : ∀ c ∈ (ls ++ ms).flatten, c < 128 := fun c hc => by
      rw [List.flatten_append] at hc; exact (List.mem_append.mp hc).elim (ft c) (mt c)
    have hLM : ∀ l ∈ ls ++ ms, Let1 l := fun l h => (List.mem_append.mp h).elim (hL l) (hM l)
    have hne : ls ≠ [] := fun z => by rw [z] at h1; simp at h1
    rcases this with rfl | rfl | rfl | rfl | rfl | rfl | rfl | rfl | rfl | rfl | rfl
    all_goals refine w_ixL (.of s.f1.cell) rfl ?_
    · exact q [] _ _ _ (str _ (notWord_bad cA cM (by simp)) mix (by simp only [List.length_append, List.length_take, List.length_drop, List.length_singleton]; omega)) bx s1
    · exact q [] _ _ _ (str _ (notWord_nine hLM (by rw [List.length_append]; omega)) fms (by omega)) bx s1
    · exact q [] _ _ _ (str [] notWord_nil (fun _ h => nomatch h) (by simp)) bx s1
    · exact q [] _ _ _ (str _ (notWord_mark (by decide)) l39 (by simp only [List.length_append, List.length_cons, List.length_nil]; omega)) bx s1
    · exact q [] _ _ _ (str _ (notWord_two hL (by decide) (by decide) hne) l396 (by simp only [List.length_append, List.length_cons, List.length_nil]; omega)) bx s1
    · exact q [] _ _ _ (.inl ⟨_, _, Sh.none, by decide +kernel, .inr (by decide +kernel)⟩) bx s1
    · exact q [] _ _ _ (.inl ⟨_, _, Sh.int (by decide), by decide +kernel, .inr (by decide +kernel)⟩) bx s1
    · exact q [] _ _ _ (.inl ⟨_, _, Sh.bool, by decide +kernel, .inr (by decide +kernel)⟩) bx s1
    · exact q [_] _ _ _ (.inr ⟨_, ls.flatten, rfl, rfl, lt _ ft, by omega⟩) bx s.f1.drop.f1.drop.f1.drop.f1
    · exact q [_] _ _ _ (.inl ⟨_, _, Sh.tup (lt _ ft) (by omega), by decide +kernel, .inr (by decide +kernel)⟩) bx s.f1.drop.f1.drop.f2.drop.f1
    · exact q [_] _ _ _ (.inl ⟨_, _, Sh.dict, by decide +kernel, .inr (by decide +kernel)⟩) bx s.f1.drop.f2.drop.f2.drop.f1
end

section
variable {P : Program} {w : World} {K : PySem.W.Frag} {mg : Str → Option Value} {base : Heap} {A0 : Adr}
def cRefused (K : PySem.W.Frag) : Sp := fun vs H Q _ => ∃ (v : V) (C L : List Cell) (R : List (List V × List T)), vs = [v] ∧ Wrong K C v ∧ S K H (C ++ L) R ∧ ∀ H', S K H' L R → Q (.bl true) H'
theorem lettersOf_no {H : Hp} {Q : VK} {E : XK} {v : V} {L : List Cell} {R : List (List V × List Gk.T)} (s : S K H L R) (h : (∃ t, v = vt t ∧ isWord t = false ∧ t.length ≤ 1000) ∨ ∃ Ty, TyX K H v (.type Ty) ∧ kitB Ty "str" = some false)
    (q : ∀ d H', S K H' ((d, .xd [(("found" : Str), v)]) :: L) R → E (.ref A0.NoWord) (some d) H') : cLettersOf K A0 ([v] ++ []) H Q E := by
  refine ⟨v, L, R, rfl, s, ?_⟩
  rcases h with ⟨t, rfl, h1, h2⟩ | ⟨Ty, h1, h2⟩
  · exact .inl ⟨t, rfl, by omega, (fun z => by rw [h1] at z; cases z), fun _ => q⟩
  · exact .inr ⟨Ty, h1, h2, q⟩
abbrev st_law_refused : Stmt := topS 18
theorem sc_law_refused : FnScope ["_law_thing", "e", "_law_found"] ["_law_thing"] (defScope st_law_refused) := ⟨rfl, rfl, rfl, by decide +kernel, rfl, by decide +kernel, by decide +kernel⟩
theorem ok_refused (bm : BaseM base) (T : Txt K mg A0) (c_letters_of : Cal P w K mg base "letters_of" 5 ["word"] [] (cLettersOf K A0)) : Cal P w K mg base "_law_refused" 6 ["_law_thing"] [] (cRefused K) := by
  refine Cal.mk' T.r_law_refused sc_law_refused (fun vs H Q E h => ?_) (fun _ _ _ _ _ _ us hl => match us, hl with | [_], _ => rfl) (fun f cd A out sh H vs Q E hr h => ?_)
  · obtain ⟨v, C, L, R, rfl, _⟩ := h; rfl
  · have hu64 := hr.r.units
    have hu1 := hu_of hr.r
    have hgd := hr.g
    obtain ⟨v, C, L, R, rfl, ⟨dd, Ty, sh, nl, kt⟩ | ⟨p, t, rfl, rfl, ht, tl⟩, s, q⟩ := h
    · refine ⟨_, (pss_cons (ps_tryG rfl rfl sc_law_refused.nd tkG (fun W1 pn1 xe1 tk1 po1 => (pss_one (ps_expr (pe_cal c_letters_of (hr.mono (by decide)) tk1 (pa_cons (pv 0) pa_nil))))) (ClsOk.named (i := 1) rfl rfl ⟨rfl, by decide, Or.inl T.g_NoWord⟩ (fun a oe cls d pn hz hf => (pss_cons (ps_set (i := 2) sc_law_refused.nd rfl (by first | exact Or.inl rfl | exact Or.inr rfl) (pe_lst (pa_cons (pe_found T.x_NoWord hz hf (pv 1)) (pa_cons (pe_callB (cr_k (fun K => gIsE K cls d a) K rfl (call_gIsE hz hf)) (by rfl) T.b_isinstance (by decide +kernel) (pa_cons (pv 1) (pa_cons (pe_gc T.g_NoText) pa_nil))) pa_nil))))
      (pss_cons (ps_if (pt_truk (K := K) rfl (pt_tru (pe_callB (cr_k (fun K => gIsE K cls d a) K rfl (call_gIsE hz hf)) (by rfl) T.b_isinstance (by decide +kernel) (pa_cons (pv 0) (pa_cons (pe_ty (T := "list") T.b_list (by decide +kernel)) pa_nil))))) (pss_one (ps_expr (bm_k (K := K) rfl (pe_bm PySem.F.plainAttrs_list PySem.F.slot_list_append PySem.F.type_list_append mt_append (pv 0) (pa_cons pe_str pa_nil))))) pss_nil)
      (pss_one (ps_ret (pe_cmpR (op_k gEq K rfl (op_gEq hu64)) (pe_callB (cr_k gRepr K rfl (call_gRepr bm hgd hu64)) (by rfl) T.b_repr (by decide +kernel) (pa_cons (pv 2) pa_nil)) (pe_callB (cr_k gRepr K rfl (call_gRepr bm hgd hu64)) (by rfl) T.b_repr (by decide +kernel) (pa_cons (pe_lst (pa_cons (pv 0) (pa_cons pe_bl pa_nil))) pa_nil)) (nomark _))))))) (ClsOk.plain ⟨rfl, by decide, Or.inl T.g_CustomsError⟩ (fun a oe cls d pn hz hf => (pss_one (ps_ret pe_bl))) ClsOk.nil)))
      (pss_one (ps_ret pe_bl))), w_start (σ0 := [some _, none, none]) rfl ?_⟩
      walk_at "w"
      refine lettersOf_no s (kt.imp id fun z => ⟨_, sh.ty s, z⟩) (fun d H s => ?_)
      refine w_clT T.e_NoWord_NoWord (fun a ha => ?_)
      walk_at "w"
      refine w_isE T.f_NoWord s.cell T.e_NoWord_NoText T.e_NoWord_NoWord ?_
      walk_at "w"
      refine w_isEO (w_isi (sh.ty (S.under (X := [_, _]) s)) nl ?_)
      walk_at "w"
      have nn : Nice (.list [dd, .bool false]) 5000 4 := (NiceA.cons sh.ni (NiceA.cons (Nice.bool false) NiceA.nil)).list.mono (by omega) (by omega)
      refine w_repr (.lst (.of s.cell) (.cons (sh.dd (S.under (X := [_, _]) s)) (.cons (.bl _) .nil))) nn (by omega) (by omega) ?_
      walk_at "w"
      refine w_repr (.lst (.of s.cell) (.cons (sh.dd (S.under (X := [_, _, _]) s)) (.cons (.bl _) .nil))) nn (by omega) (by omega) ?_
      walk_at "w"
      rw [decide_eq_true rfl]
      exact q _ (s.drop.drop.drop.sub (List.sublist_append_right _ _))
    · have s : S K H ((p, .lst [vt t]) :: L) R := s
      refine ⟨_, (pss_cons (ps_tryG rfl rfl sc_law_refused.nd tkG (fun W1 pn1 xe1 tk1 po1 => (pss_one (ps_expr (pe_cal c_letters_of (hr.mono (by decide)) tk1 (pa_cons (pv 0) pa_nil))))) (ClsOk.named (i := 1) rfl rfl ⟨rfl, by decide, Or.inl T.g_NoWord⟩ (fun a oe cls d pn hz hf => (pss_cons (ps_set (i := 2) sc_law_refused.nd rfl (by first | exact Or.inl rfl | exact Or.inr rfl) (pe_lst (pa_cons (pe_found T.x_NoWord hz hf (pv 1)) (pa_cons (pe_callB (cr_k (fun K => gIsE K cls d a) K rfl (call_gIsE hz hf)) (by rfl) T.b_isinstance (by decide +kernel) (pa_cons (pv 1) (pa_cons (pe_gc T.g_NoText) pa_nil))) pa_nil))))
      (pss_cons (ps_if (pt_truk (K := K) rfl (pt_tru (pe_callB (cr_k (fun K => gIsE K cls d a) K rfl (call_gIsE hz hf)) (by rfl) T.b_isinstance (by decide +kernel) (pa_cons (pv 0) (pa_cons (pe_ty (T := "list") T.b_list (by decide +kernel)) pa_nil))))) (pss_one (ps_expr (bm_k (K := K) rfl (pe_bm PySem.F.plainAttrs_list PySem.F.slot_list_append PySem.F.type_list_append mt_append (pv 0) (pa_cons pe_str pa_nil))))) pss_nil)
      (pss_one (ps_ret (pe_cmpR (op_k gEq K rfl (op_gEq hu64)) (pe_callB (cr_k gRepr K rfl (call_gRepr bm hgd hu64)) (by rfl) T.b_repr (by decide +kernel) (pa_cons (pv 2) pa_nil)) (pe_callB (cr_k gRepr K rfl (call_gRepr bm hgd hu64)) (by rfl) T.b_repr (by decide +kernel) (pa_cons (pe_lst (pa_cons (pv 0) (pa_cons pe_bl pa_nil))) pa_nil)) (nomark _))))))) (ClsOk.plain ⟨rfl, by decide, Or.inl T.g_CustomsError⟩ (fun a oe cls d pn hz hf => (pss_one (ps_ret pe_bl))) ClsOk.nil)))
      (pss_one (ps_ret pe_bl))), w_start (σ0 := [some _, none, none]) rfl ?_⟩
      walk_at "w"
      refine lettersOf_no s (.inr ⟨_, .base (.lst s.cell), by decide +kernel⟩) (fun d H s => ?_)
      refine w_clT T.e_NoWord_NoWord (fun a ha => ?_)
      walk_at "w"
      refine w_isE T.f_NoWord s.cell T.e_NoWord_NoText T.e_NoWord_NoWord ?_
      walk_at "w"
      refine w_isEO (w_isiL s.f2.cell ?_)
      walk_at "w"
      have nn : Nice (.list [.list [.str (tx t), .str "more"], .bool false]) 5000 4 := (NiceA.cons (NiceA.cons (Nice.str ht) (NiceA.cons (Nice.str (l := [109, 111, 114, 101]) (by decide)) NiceA.nil)).list (NiceA.cons (Nice.bool false) NiceA.nil)).list.mono (by simp; omega) (by omega)
      refine w_repr (.lst (.of s.f1.cell) (.cons (.lst (.of s.cell) (.cons (.str _) (.cons (.str _) .nil))) (.cons (.bl _) .nil))) nn (by omega) (by omega) ?_
      walk_at "w"
      refine w_repr (.lst (.of s.cell) (.cons (.lst (.of s.f1.cell) (.cons (.str _) (.cons (.str _) .nil))) (.cons (.bl _) .nil))) nn (by omega) (by omega) ?_
      walk_at "w"
      rw [decide_eq_true rfl]
      exact q _ s.drop.drop.drop.drop
end

section
variable {P : Program} {w : World} {K : PySem.W.Frag} {mg : Str → Option Value} {base : Heap} {A0 : Adr}
def sp_law (K : PySem.W.Frag) : Sp := fun vs H Q _ => ∃ (a : Addr) (ns : List Int), vs = [.ref a] ∧ SqL K H a (ns.map V.int) ∧ ns.length ≤ 63 ∧ ∀ H', Q (.bl true) H'
def tL (ls : List (List Nat)) : T := T.lst ((ls.map tx).map .str)
def Ok8 (ls : List (List Nat)) : Prop := (∀ l ∈ ls, Let1 l) ∧ 1 ≤ ls.length ∧ ls.length ≤ 8
abbrev st_law : Stmt := topS 20
theorem sc_law : FnScope ["_law_script", "_law_kept", "_law_k", "_law_box_here", "_law_letters", "_law_turn", "_law_found"] ["_law_script"] (defScope st_law) := ⟨rfl, rfl, rfl, by decide +kernel, rfl, by decide +kernel, by decide +kernel⟩
theorem ok_law (T : Txt K mg A0) (c_law_cell : Cal P w K mg base "_law_cell" 1 ["_law_script", "_law_k"] [] (cCell K)) (c_law_box : Cal P w K mg base "_law_box" 1 ["_law_cell_here"] [] (cBox K)) (c_law_take : Cal P w K mg base "_law_take" 1 ["_law_box_here", "_law_many"] [] (cTake K)) (c_law_drawn : Cal P w K mg base "_law_drawn" 2 ["_law_box_here", "_law_many"] [] (cDrawn K)) (c_letters_of : Cal P w K mg base "letters_of" 5 ["word"] [] (cLettersOf K A0))
    (c_law_bad : Cal P w K mg base "_law_bad" 3 ["_law_box_here", "_law_letters"] [] (cBad K)) (c_law_refused : Cal P w K mg base "_law_refused" 6 ["_law_thing"] [] (cRefused K)) :
    ∀ (f : Addr) (fd : FuncData), L2.Fun K "law" "law" st_law f fd → FnG P w K mg base 7 f fd ["_law_script"] (sp_law K) := by
  intro f fd F
  refine Fun.okG F sc_law (fun vs H Q E h => ?_) (fun cd A out sh H vs Q E hr h => ?_)
  · obtain ⟨a, ns, rfl, _⟩ := h; rfl
  · have hu64 := hr.r.units
    have hu1 := hu_of hr.r
    have hgd := hr.g
    obtain ⟨a, ns, rfl, hq, hn, q⟩ := h
    have s := S.script hq
    refine ⟨_, (pss_cons (ps_set (i := 1) sc_law.nd rfl (by first | exact Or.inl rfl | exact Or.inr rfl) (pe_lst pa_nil))
      (pss_cons (ps_for poG rfl (pi_range1 rfl T.b_range (pa_cons (pe_callB (call_gMax rfl) (by rfl) T.b_max (by decide +kernel) (pa_cons pe_int (pa_cons (pe_callB (call_gMin rfl) (by rfl) T.b_min (by decide +kernel) (pa_cons pe_int (pa_cons (pe_callB (cr_k gLen K rfl call_gLen) (by rfl) T.b_len (by decide +kernel) (pa_cons (pv 0) pa_nil)) pa_nil))) pa_nil))) pa_nil)) (pg_name (i := 2) sc_law.nd rfl (by first | exact Or.inl rfl | exact Or.inr rfl))
      (pss_cons (ps_set (i := 3) sc_law.nd rfl (by first | exact Or.inl rfl | exact Or.inr rfl) (pe_cal c_law_box (hr.mono (by decide)) tkG (pa_cons (pe_cal c_law_cell (hr.mono (by decide)) tkG (pa_cons (pv 0) (pa_cons (pv 2) pa_nil))) pa_nil)))
      (pss_cons (ps_expr (bm_k (K := K) rfl (pe_bm PySem.F.plainAttrs_list PySem.F.slot_list_append PySem.F.type_list_append mt_append (pv 1) (pa_cons (pe_cal c_law_drawn (hr.mono (by decide)) tkG (pa_cons (pv 3) (pa_cons (pe_op (op_k gAdd K rfl op_gAdd) pe_int (pe_cal c_law_take (hr.mono (by decide)) tkG (pa_cons (pv 3) (pa_cons pe_int pa_nil)))) pa_nil))) pa_nil))))
      (pss_cons (ps_for poG rfl (pi_k (K := K) rfl (pi_g (pe_slice (sl_k gSl K rfl sl_g) (pv 1) (po_some (pe_un un_gNeg pe_int)) po_none))) (pg_name (i := 4) sc_law.nd rfl (by first | exact Or.inl rfl | exact Or.inr rfl))
      (pss_one (ps_for poG rfl (pi_range1 rfl T.b_range (pa_cons pe_int pa_nil)) (pg_name (i := 5) sc_law.nd rfl (by first | exact Or.inl rfl | exact Or.inr rfl))
      (pss_cons (ps_set (i := 6) sc_law.nd rfl (by first | exact Or.inl rfl | exact Or.inr rfl) (pe_cal c_letters_of (hr.mono (by decide)) tkG (pa_cons (pe_m1 PySem.F.slot_str_join PySem.F.type_str_join (mt_gJoin (K := K) rfl) (pe_sx (l := []) (by decide +kernel)) (pv 4)) pa_nil)))
      (pss_cons (ps_if (PW.pt (pw_or (pt_not (pt_truk (K := K) rfl (pt_tru (pe_callB (cr_k gIsi K rfl call_gIsi) (by rfl) T.b_isinstance (by decide +kernel) (pa_cons (pv 6) (pa_cons (pe_ty (T := "list") T.b_list (by decide +kernel)) pa_nil)))))) (pw_or1 (pt_cmpR (op_k gNe K rfl (op_gNe hu64)) (pv 6) (pv 4) (nomark _))))) (pss_one (ps_ret pe_bl)) pss_nil)
      (pss_cons (ps_expr (bm_k (K := K) rfl (pe_bm PySem.F.plainAttrs_list PySem.F.slot_list_append PySem.F.type_list_append mt_append (pv 6) (pa_cons (pe_sx (l := [120]) (by decide +kernel)) pa_nil))))
      (pss_one (ps_expr (bm0_k (K := K) rfl (pe_bm0 PySem.F.plainAttrs_list PySem.F.slot_list_reverse PySem.F.type_list_reverse mt_reverse (pv 6)))))))))))
      (pss_one (ps_if (pt_not (pt_truk (K := K) rfl (pt_tru (pe_cal c_law_refused (hr.mono (by decide)) tkG (pa_cons (pe_cal c_law_bad (hr.mono (by decide)) tkG (pa_cons (pv 3) (pa_cons (pe_ix (ix_k gIx K rfl (ix_g hu1)) (pv 1) (pe_un un_gNeg pe_int) (fun _ _ => rfl)) pa_nil))) pa_nil))))) (pss_one (ps_ret pe_bl)) pss_nil))))))
      (pss_one (ps_ret pe_bl)))), w_start (σ0 := [some _, none, none, none, none, none, none]) rfl ?_⟩
    walk_at "w"
    refine loop_rng (fun i σ H => ∃ (x2 x3 x4 x5 x6 : Option V) (xs : List V) (lss : List (List (List Nat))), σ = [some (.ref a), some (.ref p), x2, x3, x4, x5, x6] ∧ S K H [(p, .lst xs)] ((xs, lss.map tL) :: [([.ref a], [.sqi ns])]) ∧ (∀ ls ∈ lss, Ok8 ls) ∧ xs.length = i) ?_ ?_ ?_
    · exact ⟨_, _, _, _, _, [], [], rfl, s.add (fun _ _ => .nil), fun _ h => (nomatch h), rfl⟩
    · rintro i σ H hi ⟨x2, x3, x4, x5, x6, xs, lss, rfl, s, hs, hx⟩
      simp only [List.length_map] at hi
      walk_at "w"
      refine ⟨a, ns, _, rfl, s.intsOf (by walk_at "mem"), by omega, fun c => ?_⟩
      walk_at "w"
      refine ⟨c, _, _, rfl, s, fun b o H bx s => ?_⟩
      walk_at "w"
      refine w_take s bx (by omega) (by omega) (by omega) (fun d1 o1 H d10 d11 bx s => ?_)
      walk_at "w"
      refine ⟨b, _, o1, 1, _, _, rfl, s, bx, by omega, by omega, by omega, fun p1 o2 ls H hL hl bx s => ?_⟩
      walk_at "w"
      have s := s.f1.frzS.snoc (vs := xs) (ts := lss.map tL) (v := .ref p1) (t := tL ls) (by walk_at "mem") (by walk_at "mem")
      have ok8 : Ok8 ls := ⟨hL, by omega, by omega⟩
      have s : S K H [(p, .lst (xs ++ [V.ref p1])), (b, o2)] [(xs ++ [V.ref p1], (lss ++ [ls]).map tL), ([V.ref p1], [tL ls]), ([.ref a], [.sqi ns])] := by
        rw [List.map_append]
        exact s.trs fun r hr => by
          rcases List.mem_cons.mp hr with rfl | hr
          · exact List.mem_cons_self
          · rcases List.mem_cons.mp hr with rfl | hr
            · exact List.mem_cons_of_mem _ List.mem_cons_self
            · exact List.mem_cons_of_mem _ (List.mem_cons_of_mem _ (List.mem_cons_of_mem _ hr))
      have hs2 : ∀ l ∈ lss ++ [ls], Ok8 l := fun l h => (List.mem_append.mp h).elim (hs l) (fun h => by rw [List.mem_singleton.mp h]; exact ok8)
      refine w_forL ?_
      walk_at "w"
      refine w_slL s (.of s.cell) (fun r H s => ?_)
      refine w_itL (.of s.cell) ?_
      refine loop_list (xs := cutV (xs ++ [V.ref p1]) (some (-2)) none) (fun j σ H => ∃ (x4 x5 x6 : Option V), σ = [some (.ref a), some (.ref p), some (.int (0 + i)), some (.ref b), x4, x5, x6] ∧ S K H [(r, .lst (cutV (xs ++ [V.ref p1]) (some (-2)) none)), (p, .lst (xs ++ [V.ref p1])), (b, o2)] [(xs ++ [V.ref p1], (lss ++ [ls]).map tL), ([V.ref p1], [tL ls]), ([.ref a], [.sqi ns])]) ?_ ?_ ?_ ?_
      · exact ⟨_, _, _, rfl, s⟩
      · rintro j σ H hj ⟨_, _, _, _, s⟩
        exact .of s.cell
      · rintro j y σ H hy ⟨x4, x5, x6, rfl, s⟩
        obtain ⟨t, ht, s⟩ := s.val List.mem_cons_self (mem_cutV (List.mem_of_getElem? hy))
        obtain ⟨ms, hm, rfl⟩ := List.mem_map.mp ht
        obtain ⟨p2, rfl⟩ := s.isRef List.mem_cons_self
        obtain ⟨hM, m1, m8⟩ := hs2 ms hm
        have fl := flat_len hM
        walk_at "w"
        refine loop_rng (fun i2 σ H => ∃ (x5 x6 : Option V), σ = [some (.ref a), some (.ref p), some (.int (0 + i)), some (.ref b), some (.ref p2), x5, x6] ∧ S K H [(r, .lst (cutV (xs ++ [V.ref p1]) (some (-2)) none)), (p, .lst (xs ++ [V.ref p1])), (b, o2)] [([V.ref p2], [tL ms]), (xs ++ [V.ref p1], (lss ++ [ls]).map tL), ([V.ref p1], [tL ls]), ([.ref a], [.sqi ns])]) ?_ ?_ ?_
        · exact ⟨_, _, rfl, s⟩
        · rintro i2 σ H hi2 ⟨x5, x6, rfl, s⟩
          have hp2 := s.strsAt (ls := ms) (a := p2) List.mem_cons_self
          walk_at "w"
          refine w_joinE (.of hp2) (by omega) ?_
          walk_at "w"
          refine ⟨_, _, _, rfl, s, .inl ⟨ms.flatten, rfl, by omega, fun _ ls' h p3 H s => ?_, fun z => ?_⟩⟩
          · rw [lin_letters hM] at h; cases h
            have lt : ∀ l ∈ ms, ∀ c ∈ l, c < 0x110000 := fun l hl c hc => Nat.lt_trans ((hM l hl).lt c hc) (by decide)
            walk_at "w"
            refine w_isiL s.cell ?_
            walk_at "w"
            refine w_neLs (.of s.cell) (.of (s.strsAt (ls := ms) List.mem_cons_self)) lt lt ?_
            walk_at "w"
            rw [decide_eq_true rfl]
            walk_at "w"
            exact ⟨_, _, rfl, s.drop⟩
          · rw [isWord_letters hM m1 m8] at z; cases z
        · rintro σ H ⟨x5, x6, rfl, s⟩
          exact ⟨_, _, _, rfl, s.tl⟩
      · rintro σ H ⟨x4, x5, x6, rfl, s⟩
        walk_at "w"
        refine w_ixL (.of s.f1.cell) atI_last ?_
        walk_at "w"
        refine ⟨b, p1, ls, o2, _, _, _, rfl, s.f2, by walk_at "mem", hL, ok8.2.1, ok8.2.2, bx, by omega, fun C v o' H hw bx s => ?_⟩
        walk_at "w"
        refine ⟨v, C, _, _, rfl, hw, s, fun H s => ?_⟩
        walk_at "w"
        exact ⟨_, _, _, _, _, _, lss ++ [ls], rfl, s.drop.drop.trs (fun r hr => by
          rcases List.mem_cons.mp hr with rfl | hr
          · exact List.mem_cons_self
          · exact List.mem_cons_of_mem _ (List.mem_cons_of_mem _ hr)), hs2, by simp [hx]⟩
    · rintro σ H ⟨x2, x3, x4, x5, x6, xs, lss, rfl, s, hs, hx⟩
      walk_at "w"
      exact q _
end

theorem txt_mk {K : PySem.W.Frag} {h : Heap} {mg : Str → Option Value} (kin : K.In h) (G : h.Ns mainGlobals mg)
    {C_CustomsError : Addr} {C_NoWord : Addr} {C_NoText : Addr} {fi_NoWord N_NoWord : Addr} {nm_NoWord q_NoWord : Str} {bs_NoWord : List Value} {sn_NoWord : List Str} {sb_NoWord : List Value} {ab_NoWord : Bool} {co_NoWord : Option Bool} {dd_NoWord : Option Addr} {k0_NoWord k1_NoWord k2_NoWord k3_NoWord k5_NoWord : Option Value} {oc_NoWord dc_NoWord pm_NoWord cd_NoWord ct_NoWord : Value} {od_NoWord an_NoWord : Option Addr} {sl_NoWord : Array (Option Value)} {fi_NoText N_NoText : Addr} {nm_NoText q_NoText : Str} {bs_NoText : List Value} {sn_NoText : List Str} {sb_NoText : List Value} {ab_NoText : Bool} {co_NoText : Option Bool} {dd_NoText : Option Addr} {k0_NoText k1_NoText k2_NoText k3_NoText k5_NoText : Option Value} {oc_NoText dc_NoText pm_NoText cd_NoText ct_NoText : Value} {od_NoText an_NoText : Option Addr} {sl_NoText : Array (Option Value)} {f_letters_in : Addr} {ocf_letters_in kvf_letters_in dcf_letters_in pmf_letters_in cdf_letters_in ctf_letters_in : Value} {odf_letters_in anf_letters_in : Option Addr} {slf_letters_in : Array (Option Value)} {f_is_word : Addr} {ocf_is_word kvf_is_word dcf_is_word pmf_is_word cdf_is_word ctf_is_word : Value} {odf_is_word anf_is_word : Option Addr} {slf_is_word : Array (Option Value)} {f_letters_of : Addr} {ocf_letters_of kvf_letters_of dcf_letters_of pmf_letters_of cdf_letters_of ctf_letters_of : Value} {odf_letters_of anf_letters_of : Option Addr} {slf_letters_of : Array (Option Value)} {f_law_cell : Addr} {ocf_law_cell kvf_law_cell dcf_law_cell pmf_law_cell cdf_law_cell ctf_law_cell : Value} {odf_law_cell anf_law_cell : Option Addr} {slf_law_cell : Array (Option Value)} {f_law_box : Addr} {ocf_law_box kvf_law_box dcf_law_box pmf_law_box cdf_law_box ctf_law_box : Value} {odf_law_box anf_law_box : Option Addr} {slf_law_box : Array (Option Value)} {f_law_take : Addr} {ocf_law_take kvf_law_take dcf_law_take pmf_law_take cdf_law_take ctf_law_take : Value} {odf_law_take anf_law_take : Option Addr} {slf_law_take : Array (Option Value)} {f_law_drawn : Addr} {ocf_law_drawn kvf_law_drawn dcf_law_drawn pmf_law_drawn cdf_law_drawn ctf_law_drawn : Value} {odf_law_drawn anf_law_drawn : Option Addr} {slf_law_drawn : Array (Option Value)} {f_law_signs : Addr} {ocf_law_signs kvf_law_signs dcf_law_signs pmf_law_signs cdf_law_signs ctf_law_signs : Value} {odf_law_signs anf_law_signs : Option Addr} {slf_law_signs : Array (Option Value)} {f_law_refused : Addr} {ocf_law_refused kvf_law_refused dcf_law_refused pmf_law_refused cdf_law_refused ctf_law_refused : Value} {odf_law_refused anf_law_refused : Option Addr} {slf_law_refused : Array (Option Value)} {f_law_bad : Addr} {ocf_law_bad kvf_law_bad dcf_law_bad pmf_law_bad cdf_law_bad ctf_law_bad : Value} {odf_law_bad anf_law_bad : Option Addr} {slf_law_bad : Array (Option Value)} {f_law : Addr} {ocf_law kvf_law dcf_law pmf_law cdf_law ctf_law : Value} {odf_law anf_law : Option Addr} {slf_law : Array (Option Value)} {t_SMALL : Tok} {t_CAPITALS : Tok} {t_MARKS : Tok} {t_MOST_LETTERS : Tok}
    (a_CustomsError : PySem.W.nsIn K mainGlobals "CustomsError" = some (some (.ref C_CustomsError)))
    (a_NoWord : PySem.W.nsIn K mainGlobals "NoWord" = some (some (.ref C_NoWord)))
    (a_NoText : PySem.W.nsIn K mainGlobals "NoText" = some (some (.ref C_NoText)))
    (xl_NoWord : K.lookup C_NoWord = some (excClassObj nm_NoWord q_NoWord C_NoWord N_NoWord bs_NoWord (.ref C_CustomsError :: [.type "ValueError", .type "Exception", .type "BaseException", .type "object"]) true sn_NoWord sb_NoWord ab_NoWord co_NoWord dd_NoWord k0_NoWord k1_NoWord k2_NoWord k3_NoWord k5_NoWord "ValueError.__new__"))
    (sa_NoWord : PySem.W.findIn K (.ref C_NoWord) "__setattr__" = some (some (.builtin "object.__setattr__")))
    (ga_NoWord : PySem.W.findIn K (.ref C_NoWord) "__getattribute__" = some (some (.builtin "BaseException.__getattribute__")))
    (gg_NoWord : PySem.W.findIn K (.ref C_NoWord) "__getattr__" = some none)
    (nf_NoWord : PySem.W.findIn K (.ref C_NoWord) "found" = some none)
    (ic_NoWord : PySem.W.findIn K (.ref C_NoWord) "__init__" = some (some (.ref fi_NoWord)))
    (ti_NoWord : PySem.W.typeIn K (.ref fi_NoWord) = some (.type "function"))
    (li_NoWord : K.lookup fi_NoWord = some ⟨oc_NoWord, od_NoWord, .func (PySem.W.fnOf "__init__" "NoWord.__init__" (defArgs (inClass (topS 2) 0)) (defBody (inClass (topS 2) 0)) (defScope (inClass (topS 2) 0)) .none .none dc_NoWord pm_NoWord an_NoWord cd_NoWord ct_NoWord), sl_NoWord⟩)
    (ci_NoWord : PySem.W.codeIn K cd_NoWord "NoWord.__init__" = true)
    (kc_NoWord : PySem.W.keepIn K (.ref C_NoWord) = true)
    (ec_NoWord : PySem.W.subIn K (.ref C_NoWord) (.type "BaseException") = some true)
    (tc_NoWord : PySem.W.typeIn K (.ref C_NoWord) = some (.type "type"))
    (hc_NoWord : PySem.W.hasDictIn K C_NoWord = true)
    (qc_NoWord : PySem.W.findIn K (.ref C_NoWord) "__class__" = some (some (.builtin "object.__class__")))
    (mr_NoWord : PySem.W.mroIn K C_NoWord (.type "object") = some true)
    (xl_NoText : K.lookup C_NoText = some (excClassObj nm_NoText q_NoText C_NoText N_NoText bs_NoText (.ref C_CustomsError :: [.type "ValueError", .type "Exception", .type "BaseException", .type "object"]) true sn_NoText sb_NoText ab_NoText co_NoText dd_NoText k0_NoText k1_NoText k2_NoText k3_NoText k5_NoText "ValueError.__new__"))
    (sa_NoText : PySem.W.findIn K (.ref C_NoText) "__setattr__" = some (some (.builtin "object.__setattr__")))
    (ga_NoText : PySem.W.findIn K (.ref C_NoText) "__getattribute__" = some (some (.builtin "BaseException.__getattribute__")))
    (gg_NoText : PySem.W.findIn K (.ref C_NoText) "__getattr__" = some none)
    (nf_NoText : PySem.W.findIn K (.ref C_NoText) "found" = some none)
    (ic_NoText : PySem.W.findIn K (.ref C_NoText) "__init__" = some (some (.ref fi_NoText)))
    (ti_NoText : PySem.W.typeIn K (.ref fi_NoText) = some (.type "function"))
    (li_NoText : K.lookup fi_NoText = some ⟨oc_NoText, od_NoText, .func (PySem.W.fnOf "__init__" "NoText.__init__" (defArgs (inClass (topS 3) 0)) (defBody (inClass (topS 3) 0)) (defScope (inClass (topS 3) 0)) .none .none dc_NoText pm_NoText an_NoText cd_NoText ct_NoText), sl_NoText⟩)
    (ci_NoText : PySem.W.codeIn K cd_NoText "NoText.__init__" = true)
    (kc_NoText : PySem.W.keepIn K (.ref C_NoText) = true)
    (ec_NoText : PySem.W.subIn K (.ref C_NoText) (.type "BaseException") = some true)
    (tc_NoText : PySem.W.typeIn K (.ref C_NoText) = some (.type "type"))
    (hc_NoText : PySem.W.hasDictIn K C_NoText = true)
    (qc_NoText : PySem.W.findIn K (.ref C_NoText) "__class__" = some (some (.builtin "object.__class__")))
    (mr_NoText : PySem.W.mroIn K C_NoText (.type "object") = some true)
    (qg : PySem.W.specialIn K (.builtin "object.__class__") "__get__" = some (some (.builtin "getset_descriptor.__get__")))
    (qt : PySem.W.takesIn K (.builtin "object.__class__") = some true)
    (rb_CustomsError : PySem.W.readsIn K C_CustomsError (.type "type") = true)
    (sb_CustomsError : PySem.W.specialIn K (.ref C_CustomsError) "__getattribute__" = some (some (.builtin "type.__getattribute__")))
    (ib_CustomsError : PySem.W.findCls K (.ref C_CustomsError) (.type "type") "__init__" = some (.val (.builtin "ValueError.__init__")))
    (hs_CustomsError : PySem.W.subIn K (.ref C_CustomsError) (.type "BaseException") = some true)
    (hi_CustomsError : PySem.W.isClsIn K C_CustomsError = true)
    (ht_CustomsError : PySem.W.typeIn K (.ref C_CustomsError) = some (.type "type"))
    (es_NoWord_CustomsError : PySem.W.subIn K (.ref C_NoWord) (.ref C_CustomsError) = some true)
    (es_NoText_CustomsError : PySem.W.subIn K (.ref C_NoText) (.ref C_CustomsError) = some true)
    (hs_NoWord : PySem.W.subIn K (.ref C_NoWord) (.type "BaseException") = some true)
    (hi_NoWord : PySem.W.isClsIn K C_NoWord = true)
    (ht_NoWord : PySem.W.typeIn K (.ref C_NoWord) = some (.type "type"))
    (es_NoWord_NoWord : PySem.W.subIn K (.ref C_NoWord) (.ref C_NoWord) = some true)
    (es_NoText_NoWord : PySem.W.subIn K (.ref C_NoText) (.ref C_NoWord) = some false)
    (hs_NoText : PySem.W.subIn K (.ref C_NoText) (.type "BaseException") = some true)
    (hi_NoText : PySem.W.isClsIn K C_NoText = true)
    (ht_NoText : PySem.W.typeIn K (.ref C_NoText) = some (.type "type"))
    (es_NoWord_NoText : PySem.W.subIn K (.ref C_NoWord) (.ref C_NoText) = some false)
    (es_NoText_NoText : PySem.W.subIn K (.ref C_NoText) (.ref C_NoText) = some true)
    (af_letters_in : PySem.W.nsIn K mainGlobals "letters_in" = some (some (.ref f_letters_in)))
    (lf_letters_in : K.lookup f_letters_in = some ⟨ocf_letters_in, odf_letters_in, .func (PySem.W.fnOf "letters_in" "letters_in" (defArgs (topS 9)) (defBody (topS 9)) (defScope (topS 9)) .none kvf_letters_in dcf_letters_in pmf_letters_in anf_letters_in cdf_letters_in ctf_letters_in), slf_letters_in⟩)
    (cf_letters_in : PySem.W.codeIn K cdf_letters_in "letters_in" = true)
    (kf_letters_in : PySem.W.keepIn K (.ref f_letters_in) = true)
    (af_is_word : PySem.W.nsIn K mainGlobals "is_word" = some (some (.ref f_is_word)))
    (lf_is_word : K.lookup f_is_word = some ⟨ocf_is_word, odf_is_word, .func (PySem.W.fnOf "is_word" "is_word" (defArgs (topS 10)) (defBody (topS 10)) (defScope (topS 10)) .none kvf_is_word dcf_is_word pmf_is_word anf_is_word cdf_is_word ctf_is_word), slf_is_word⟩)
    (cf_is_word : PySem.W.codeIn K cdf_is_word "is_word" = true)
    (kf_is_word : PySem.W.keepIn K (.ref f_is_word) = true)
    (af_letters_of : PySem.W.nsIn K mainGlobals "letters_of" = some (some (.ref f_letters_of)))
    (lf_letters_of : K.lookup f_letters_of = some ⟨ocf_letters_of, odf_letters_of, .func (PySem.W.fnOf "letters_of" "letters_of" (defArgs (topS 11)) (defBody (topS 11)) (defScope (topS 11)) .none kvf_letters_of dcf_letters_of pmf_letters_of anf_letters_of cdf_letters_of ctf_letters_of), slf_letters_of⟩)
    (cf_letters_of : PySem.W.codeIn K cdf_letters_of "letters_of" = true)
    (kf_letters_of : PySem.W.keepIn K (.ref f_letters_of) = true)
    (af_law_cell : PySem.W.nsIn K mainGlobals "_law_cell" = some (some (.ref f_law_cell)))
    (lf_law_cell : K.lookup f_law_cell = some ⟨ocf_law_cell, odf_law_cell, .func (PySem.W.fnOf "_law_cell" "_law_cell" (defArgs (topS 13)) (defBody (topS 13)) (defScope (topS 13)) .none kvf_law_cell dcf_law_cell pmf_law_cell anf_law_cell cdf_law_cell ctf_law_cell), slf_law_cell⟩)
    (cf_law_cell : PySem.W.codeIn K cdf_law_cell "_law_cell" = true)
    (kf_law_cell : PySem.W.keepIn K (.ref f_law_cell) = true)
    (af_law_box : PySem.W.nsIn K mainGlobals "_law_box" = some (some (.ref f_law_box)))
    (lf_law_box : K.lookup f_law_box = some ⟨ocf_law_box, odf_law_box, .func (PySem.W.fnOf "_law_box" "_law_box" (defArgs (topS 14)) (defBody (topS 14)) (defScope (topS 14)) .none kvf_law_box dcf_law_box pmf_law_box anf_law_box cdf_law_box ctf_law_box), slf_law_box⟩)
    (cf_law_box : PySem.W.codeIn K cdf_law_box "_law_box" = true)
    (kf_law_box : PySem.W.keepIn K (.ref f_law_box) = true)
    (af_law_take : PySem.W.nsIn K mainGlobals "_law_take" = some (some (.ref f_law_take)))
    (lf_law_take : K.lookup f_law_take = some ⟨ocf_law_take, odf_law_take, .func (PySem.W.fnOf "_law_take" "_law_take" (defArgs (topS 15)) (defBody (topS 15)) (defScope (topS 15)) .none kvf_law_take dcf_law_take pmf_law_take anf_law_take cdf_law_take ctf_law_take), slf_law_take⟩)
    (cf_law_take : PySem.W.codeIn K cdf_law_take "_law_take" = true)
    (kf_law_take : PySem.W.keepIn K (.ref f_law_take) = true)
    (af_law_drawn : PySem.W.nsIn K mainGlobals "_law_drawn" = some (some (.ref f_law_drawn)))
    (lf_law_drawn : K.lookup f_law_drawn = some ⟨ocf_law_drawn, odf_law_drawn, .func (PySem.W.fnOf "_law_drawn" "_law_drawn" (defArgs (topS 16)) (defBody (topS 16)) (defScope (topS 16)) .none kvf_law_drawn dcf_law_drawn pmf_law_drawn anf_law_drawn cdf_law_drawn ctf_law_drawn), slf_law_drawn⟩)
    (cf_law_drawn : PySem.W.codeIn K cdf_law_drawn "_law_drawn" = true)
    (kf_law_drawn : PySem.W.keepIn K (.ref f_law_drawn) = true)
    (af_law_signs : PySem.W.nsIn K mainGlobals "_law_signs" = some (some (.ref f_law_signs)))
    (lf_law_signs : K.lookup f_law_signs = some ⟨ocf_law_signs, odf_law_signs, .func (PySem.W.fnOf "_law_signs" "_law_signs" (defArgs (topS 17)) (defBody (topS 17)) (defScope (topS 17)) .none kvf_law_signs dcf_law_signs pmf_law_signs anf_law_signs cdf_law_signs ctf_law_signs), slf_law_signs⟩)
    (cf_law_signs : PySem.W.codeIn K cdf_law_signs "_law_signs" = true)
    (kf_law_signs : PySem.W.keepIn K (.ref f_law_signs) = true)
    (af_law_refused : PySem.W.nsIn K mainGlobals "_law_refused" = some (some (.ref f_law_refused)))
    (lf_law_refused : K.lookup f_law_refused = some ⟨ocf_law_refused, odf_law_refused, .func (PySem.W.fnOf "_law_refused" "_law_refused" (defArgs (topS 18)) (defBody (topS 18)) (defScope (topS 18)) .none kvf_law_refused dcf_law_refused pmf_law_refused anf_law_refused cdf_law_refused ctf_law_refused), slf_law_refused⟩)
    (cf_law_refused : PySem.W.codeIn K cdf_law_refused "_law_refused" = true)
    (kf_law_refused : PySem.W.keepIn K (.ref f_law_refused) = true)
    (af_law_bad : PySem.W.nsIn K mainGlobals "_law_bad" = some (some (.ref f_law_bad)))
    (lf_law_bad : K.lookup f_law_bad = some ⟨ocf_law_bad, odf_law_bad, .func (PySem.W.fnOf "_law_bad" "_law_bad" (defArgs (topS 19)) (defBody (topS 19)) (defScope (topS 19)) .none kvf_law_bad dcf_law_bad pmf_law_bad anf_law_bad cdf_law_bad ctf_law_bad), slf_law_bad⟩)
    (cf_law_bad : PySem.W.codeIn K cdf_law_bad "_law_bad" = true)
    (kf_law_bad : PySem.W.keepIn K (.ref f_law_bad) = true)
    (af_law : PySem.W.nsIn K mainGlobals "law" = some (some (.ref f_law)))
    (lf_law : K.lookup f_law = some ⟨ocf_law, odf_law, .func (PySem.W.fnOf "law" "law" (defArgs (topS 20)) (defBody (topS 20)) (defScope (topS 20)) .none kvf_law dcf_law pmf_law anf_law cdf_law ctf_law), slf_law⟩)
    (cf_law : PySem.W.codeIn K cdf_law "law" = true)
    (kf_law : PySem.W.keepIn K (.ref f_law) = true)
    (cc_SMALL : PySem.W.nsIn K mainGlobals "SMALL" = some (some (.str "abcdefghijklmnopqrstuvwxyz" t_SMALL)))
    (cc_CAPITALS : PySem.W.nsIn K mainGlobals "CAPITALS" = some (some (.str "ABCDEFGHIJKLMNOPQRSTUVWXYZ" t_CAPITALS)))
    (cc_MARKS : PySem.W.nsIn K mainGlobals "MARKS" = some (some (.str "'`^~:" t_MARKS)))
    (cc_MOST_LETTERS : PySem.W.nsIn K mainGlobals "MOST_LETTERS" = some (some (.int 8 t_MOST_LETTERS)))
    (nb_isinstance : PySem.W.nsIn K mainGlobals "isinstance" = some none)
    (nb_len : PySem.W.nsIn K mainGlobals "len" = some none)
    (nb_list : PySem.W.nsIn K mainGlobals "list" = some none)
    (nb_max : PySem.W.nsIn K mainGlobals "max" = some none)
    (nb_min : PySem.W.nsIn K mainGlobals "min" = some none)
    (nb_range : PySem.W.nsIn K mainGlobals "range" = some none)
    (nb_repr : PySem.W.nsIn K mainGlobals "repr" = some none)
    (nb_str : PySem.W.nsIn K mainGlobals "str" = some none) : Txt K mg ⟨0, C_CustomsError, C_NoWord, fi_NoWord, C_NoText, fi_NoText⟩ :=
  {
    r_letters_in := raw_mk kin G af_letters_in lf_letters_in cf_letters_in kf_letters_in
    r_is_word := raw_mk kin G af_is_word lf_is_word cf_is_word kf_is_word
    r_letters_of := raw_mk kin G af_letters_of lf_letters_of cf_letters_of kf_letters_of
    r_law_cell := raw_mk kin G af_law_cell lf_law_cell cf_law_cell kf_law_cell
    r_law_box := raw_mk kin G af_law_box lf_law_box cf_law_box kf_law_box
    r_law_take := raw_mk kin G af_law_take lf_law_take cf_law_take kf_law_take
    r_law_drawn := raw_mk kin G af_law_drawn lf_law_drawn cf_law_drawn kf_law_drawn
    r_law_signs := raw_mk kin G af_law_signs lf_law_signs cf_law_signs kf_law_signs
    r_law_refused := raw_mk kin G af_law_refused lf_law_refused cf_law_refused kf_law_refused
    r_law_bad := raw_mk kin G af_law_bad lf_law_bad cf_law_bad kf_law_bad
    r_law := raw_mk kin G af_law lf_law cf_law kf_law
    c_SMALL := ⟨_, PySem.W.mg_of kin G cc_SMALL⟩
    c_CAPITALS := ⟨_, PySem.W.mg_of kin G cc_CAPITALS⟩
    c_MARKS := ⟨_, PySem.W.mg_of kin G cc_MARKS⟩
    c_MOST_LETTERS := ⟨_, PySem.W.mg_of kin G cc_MOST_LETTERS⟩
    b_isinstance := PySem.W.mg_none_of kin G nb_isinstance
    b_len := PySem.W.mg_none_of kin G nb_len
    b_list := PySem.W.mg_none_of kin G nb_list
    b_max := PySem.W.mg_none_of kin G nb_max
    b_min := PySem.W.mg_none_of kin G nb_min
    b_range := PySem.W.mg_none_of kin G nb_range
    b_repr := PySem.W.mg_none_of kin G nb_repr
    b_str := PySem.W.mg_none_of kin G nb_str
    g_CustomsError := PySem.W.mg_of kin G a_CustomsError
    g_NoWord := PySem.W.mg_of kin G a_NoWord
    g_NoText := PySem.W.mg_of kin G a_NoText
    x_NoWord := { cls := ⟨_, _, _, _, _, _, _, _, _, _, _, _, _, _, xl_NoWord⟩, gB := PySem.W.mg_of kin G a_CustomsError, sa := sa_NoWord, ga := ga_NoWord, gg := gg_NoWord, noN := nf_NoWord, iC := ic_NoWord, tI := ti_NoWord, kC := kc_NoWord, exC := ec_NoWord, tyC := tc_NoWord, hdC := hc_NoWord, rB := rb_CustomsError, sB := sb_CustomsError, iB := ib_CustomsError, fn := ⟨_, _, _, _, _, _, _, _, ⟨6, 17, 6, 21⟩, ⟨6, 23, 6, 28⟩, (fun n => match n with | 0 => ⟨7, 8, 7, 20⟩ | 1 => ⟨7, 8, 7, 29⟩ | 2 => ⟨7, 30, 7, 34⟩ | 3 => ⟨7, 36, 7, 45⟩ | 4 => ⟨7, 8, 7, 46⟩ | 5 => ⟨7, 8, 7, 46⟩ | 6 => ⟨8, 8, 8, 12⟩ | 7 => ⟨8, 8, 8, 18⟩ | 8 => ⟨8, 21, 8, 26⟩ | _ => ⟨8, 8, 8, 26⟩), 0, "no word", li_NoWord, ci_NoWord, ⟨_, fun env => rfl⟩⟩ }
    x_NoText := { cls := ⟨_, _, _, _, _, _, _, _, _, _, _, _, _, _, xl_NoText⟩, gB := PySem.W.mg_of kin G a_CustomsError, sa := sa_NoText, ga := ga_NoText, gg := gg_NoText, noN := nf_NoText, iC := ic_NoText, tI := ti_NoText, kC := kc_NoText, exC := ec_NoText, tyC := tc_NoText, hdC := hc_NoText, rB := rb_CustomsError, sB := sb_CustomsError, iB := ib_CustomsError, fn := ⟨_, _, _, _, _, _, _, _, ⟨11, 17, 11, 21⟩, ⟨11, 23, 11, 28⟩, (fun n => match n with | 0 => ⟨12, 8, 12, 20⟩ | 1 => ⟨12, 8, 12, 29⟩ | 2 => ⟨12, 30, 12, 34⟩ | 3 => ⟨12, 36, 12, 50⟩ | 4 => ⟨12, 8, 12, 51⟩ | 5 => ⟨12, 8, 12, 51⟩ | 6 => ⟨13, 8, 13, 12⟩ | 7 => ⟨13, 8, 13, 18⟩ | 8 => ⟨13, 21, 13, 26⟩ | _ => ⟨13, 8, 13, 26⟩), 0, "no such text", li_NoText, ci_NoText, ⟨_, fun env => rfl⟩⟩ }
    f_NoWord := ⟨ga_NoWord, gg_NoWord, ec_NoWord, hc_NoWord, qc_NoWord, qg, qt, mr_NoWord⟩
    f_NoText := ⟨ga_NoText, gg_NoText, ec_NoText, hc_NoText, qc_NoText, qg, qt, mr_NoText⟩
    e_NoWord_CustomsError := exm_mk hs_CustomsError hi_CustomsError ht_CustomsError es_NoWord_CustomsError
    e_NoWord_NoWord := exm_mk hs_NoWord hi_NoWord ht_NoWord es_NoWord_NoWord
    e_NoWord_NoText := exm_mk hs_NoText hi_NoText ht_NoText es_NoWord_NoText
    e_NoText_CustomsError := exm_mk hs_CustomsError hi_CustomsError ht_CustomsError es_NoText_CustomsError
    e_NoText_NoWord := exm_mk hs_NoWord hi_NoWord ht_NoWord es_NoText_NoWord
    e_NoText_NoText := exm_mk hs_NoText hi_NoText ht_NoText es_NoText_NoText
  }
theorem k_end {P : Program} {w : World} {K : PySem.W.Frag} {mg : Str → Option Value} {fa : Addr} {h : Heap} (_kin : K.In h) (T' : ∃ A0, Txt K mg A0) (hfa : mg "law" = some (.ref fa)) :
    ∃ fd : FuncData, (∀ (s : Shared) (u : Value), BindsTo s fd ⟨[u], []⟩ [("_law_script", u)]) ∧ ∀ base : Heap, K.In base → base.Ns mainGlobals mg → BaseM base → FnG P w K mg base 7 fa fd ["_law_script"] (sp_law K) := by
  obtain ⟨A0, T⟩ := T'
  refine law_end T.r_law hfa (fun _ _ _ _ _ _ us hl => match us, hl with | [_], _ => rfl) (fun base bm f fd F => ?_)
  have take := ok_take (P := P) (w := w) (base := base) T
  have cell := ok_cell (P := P) (w := w) (base := base) T
  have box := ok_box (P := P) (w := w) (base := base) T
  have lin := ok_letters_in (P := P) (w := w) (base := base) T
  have drawn := ok_drawn T take
  have isw := ok_is_word T lin
  have lo := ok_letters_of T lin isw
  exact ok_law T cell box take drawn lo (ok_bad T take (ok_signs T) drawn) (ok_refused bm T lo) f fd F
end Z
open PySem PySem.W PyProof.Rows
set_option maxRecDepth 100000 in
set_option maxHeartbeats 0 in
theorem PySem.Challenge.cw_manycustoms_k02_letters_of_words_holds : PySem.Challenge.rw_manycustoms_k02_letters_of_words.Holds := by
  w_on; o_law; k_head; (case hw => w_witness2)
  k_fill
  refine Gk.walkGK (n := 63) (k := 7) (x := "_law_script") (l := PySem.Challenge.rw_manycustoms_k02_letters_of_words) Z.sp_law rfl (by decide) rfl (by first | rfl | decide +kernel) ⟨rfl, by decide, by decide⟩ (fun w h Y => PySem.W.kIn_of Y) ?F ?S
  case F =>
    intro w mg fa h KX G hmg
    refine' Z.k_end KX ⟨_, Z.txt_mk KX G ?a_CustomsError ?a_NoWord ?a_NoText ?xl_NoWord ?sa_NoWord ?ga_NoWord ?gg_NoWord ?nf_NoWord ?ic_NoWord ?ti_NoWord ?li_NoWord ?ci_NoWord ?kc_NoWord ?ec_NoWord ?tc_NoWord ?hc_NoWord ?qc_NoWord ?mr_NoWord ?xl_NoText ?sa_NoText ?ga_NoText ?gg_NoText ?nf_NoText ?ic_NoText ?ti_NoText ?li_NoText ?ci_NoText ?kc_NoText ?ec_NoText ?tc_NoText ?hc_NoText ?qc_NoText ?mr_NoText ?qg ?qt ?rb_CustomsError ?sb_CustomsError ?ib_CustomsError ?hs_CustomsError ?hi_CustomsError ?ht_CustomsError ?es_NoWord_CustomsError ?es_NoText_CustomsError ?hs_NoWord ?hi_NoWord ?ht_NoWord ?es_NoWord_NoWord ?es_NoText_NoWord ?hs_NoText ?hi_NoText ?ht_NoText ?es_NoWord_NoText ?es_NoText_NoText ?af_letters_in ?lf_letters_in ?cf_letters_in ?kf_letters_in ?af_is_word ?lf_is_word ?cf_is_word ?kf_is_word ?af_letters_of ?lf_letters_of ?cf_letters_of ?kf_letters_of ?af_law_cell ?lf_law_cell ?cf_law_cell ?kf_law_cell ?af_law_box ?lf_law_box ?cf_law_box ?kf_law_box ?af_law_take ?lf_law_take ?cf_law_take ?kf_law_take ?af_law_drawn ?lf_law_drawn ?cf_law_drawn ?kf_law_drawn ?af_law_signs ?lf_law_signs ?cf_law_signs ?kf_law_signs ?af_law_refused ?lf_law_refused ?cf_law_refused ?kf_law_refused ?af_law_bad ?lf_law_bad ?cf_law_bad ?kf_law_bad ?af_law ?lf_law ?cf_law ?kf_law ?cc_SMALL ?cc_CAPITALS ?cc_MARKS ?cc_MOST_LETTERS ?nb_isinstance ?nb_len ?nb_list ?nb_max ?nb_min ?nb_range ?nb_repr ?nb_str⟩ hmg
    (case a_CustomsError => k_is)
    (case a_NoWord => k_is)
    (case a_NoText => k_is)
    (case xl_NoWord => k_is)
    (case sa_NoWord => k_is)
    (case ga_NoWord => k_is)
    (case gg_NoWord => k_is)
    (case nf_NoWord => k_is)
    (case ic_NoWord => k_is)
    (case ti_NoWord => k_is)
    (case li_NoWord => k_is)
    (case ci_NoWord => k_is)
    (case kc_NoWord => k_is)
    (case ec_NoWord => k_is)
    (case tc_NoWord => k_is)
    (case hc_NoWord => k_is)
    (case qc_NoWord => k_is)
    (case mr_NoWord => k_is)
    (case xl_NoText => k_is)
    (case sa_NoText => k_is)
    (case ga_NoText => k_is)
    (case gg_NoText => k_is)
    (case nf_NoText => k_is)
    (case ic_NoText => k_is)
    (case ti_NoText => k_is)
    (case li_NoText => k_is)
    (case ci_NoText => k_is)
    (case kc_NoText => k_is)
    (case ec_NoText => k_is)
    (case tc_NoText => k_is)
    (case hc_NoText => k_is)
    (case qc_NoText => k_is)
    (case mr_NoText => k_is)
    (case qg => k_is)
    (case qt => k_is)
    (case rb_CustomsError => k_is)
    (case sb_CustomsError => k_is)
    (case ib_CustomsError => k_is)
    (case hs_CustomsError => k_is)
    (case hi_CustomsError => k_is)
    (case ht_CustomsError => k_is)
    (case es_NoWord_CustomsError => k_is)
    (case es_NoText_CustomsError => k_is)
    (case hs_NoWord => k_is)
    (case hi_NoWord => k_is)
    (case ht_NoWord => k_is)
    (case es_NoWord_NoWord => k_is)
    (case es_NoText_NoWord => k_is)
    (case hs_NoText => k_is)
    (case hi_NoText => k_is)
    (case ht_NoText => k_is)
    (case es_NoWord_NoText => k_is)
    (case es_NoText_NoText => k_is)
    (case af_letters_in => k_is)
    (case lf_letters_in => k_is)
    (case cf_letters_in => k_is)
    (case kf_letters_in => k_is)
    (case af_is_word => k_is)
    (case lf_is_word => k_is)
    (case cf_is_word => k_is)
    (case kf_is_word => k_is)
    (case af_letters_of => k_is)
    (case lf_letters_of => k_is)
    (case cf_letters_of => k_is)
    (case kf_letters_of => k_is)
    (case af_law_cell => k_is)
    (case lf_law_cell => k_is)
    (case cf_law_cell => k_is)
    (case kf_law_cell => k_is)
    (case af_law_box => k_is)
    (case lf_law_box => k_is)
    (case cf_law_box => k_is)
    (case kf_law_box => k_is)
    (case af_law_take => k_is)
    (case lf_law_take => k_is)
    (case cf_law_take => k_is)
    (case kf_law_take => k_is)
    (case af_law_drawn => k_is)
    (case lf_law_drawn => k_is)
    (case cf_law_drawn => k_is)
    (case kf_law_drawn => k_is)
    (case af_law_signs => k_is)
    (case lf_law_signs => k_is)
    (case cf_law_signs => k_is)
    (case kf_law_signs => k_is)
    (case af_law_refused => k_is)
    (case lf_law_refused => k_is)
    (case cf_law_refused => k_is)
    (case kf_law_refused => k_is)
    (case af_law_bad => k_is)
    (case lf_law_bad => k_is)
    (case cf_law_bad => k_is)
    (case kf_law_bad => k_is)
    (case af_law => k_is)
    (case lf_law => k_is)
    (case cf_law => k_is)
    (case kf_law => k_is)
    (case cc_SMALL => k_is)
    (case cc_CAPITALS => k_is)
    (case cc_MARKS => k_is)
    (case cc_MOST_LETTERS => k_is)
    (case nb_isinstance => k_is)
    (case nb_len => k_is)
    (case nb_list => k_is)
    (case nb_max => k_is)
    (case nb_min => k_is)
    (case nb_range => k_is)
    (case nb_repr => k_is)
    (case nb_str => k_is)
  case S =>
    intro K H a ns h1 h2
    exact ⟨a, ns, rfl, h2, h1, fun _ => rfl⟩
